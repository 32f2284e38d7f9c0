/- Part of a proof. -/
import Derived.KernelRfl
import Derived.Laws.Append
import Derived.Laws.Cells
import Derived.Laws.Entries
import Derived.Laws.IdiomCopy
import Derived.Orders
import Derived.OrdersHeld
import Derived.Still
import Derived.Tactics
import Derived.Test.YtbbbdejieenniaaGreatProg
set_option linter.all false
set_option maxHeartbeats 8000000
set_option maxRecDepth 100000
namespace Go.Vc
abbrev afD:=List Field
abbrev afC:=List Edge
abbrev aI:=List MemPlace
abbrev aG:=List (Nat×Operand)
abbrev aD:=List Operand
abbrev aC:=List (Int×Int)
abbrev az:=List (List Int)
abbrev ay:=List ResultVar
abbrev ar:=List Oper
abbrev ap:=List Value
abbrev ao:=List (Nat×Nat)
abbrev ai:=Nat×Nat
abbrev ag:=Nat->Nat
abbrev ad:=List Nat
abbrev ab:=List Int
def aW:=@if_neg
def aX:=@List.mem_cons_of_mem
def bd:=@beq_eq_false_iff_ne
def bh:=@decide_eq_true_eq
def bn:=@if_pos
def bo:=@List.mem_cons
def bC:=@Or.inl
def bP:=@beq_iff_eq
def bR:=@Or.inr
def bU:=@List.mem_append
def cp:=@List.length_eq_zero_iff
def cw:=@Nat.lt_of_lt_of_le
def cH:=@List.mem_iff_getElem?
def cK:=@List.mem_cons_self
def cV:=@Bool.or_eq_false_iff
def dm:=@decide_eq_false_iff_not
def dt:=@Go.Result.andThen_ok
def dz:=@List.length_cons
def dH:=@List.length_append
def dJ:=@Nat.lt_or_ge
def dN:=@List.mem_append_left
def dP:=@List.getElem?_append_right
def dT:=@Int.le_refl
def dU:=@List.getElem?_set_ne
def dZ:=@List.getElem?_append_left
def ez:=@Go.Sem.run_bind
def eE:=@List.getElem?_map
def eH:=@Bool.or_eq_true
def eM:=@List.map_cons
def eT:=@List.cons_append
def eW:=@Nat.zero_add
def eZ:=@Bool.and_eq_true
def fq:=@Int.toNat_natCast
def ft:=@List.ext_getElem?
def fu:=@List.getElem?_set_self
def fw:=@List.take_length
def fD:=@Nat.le_trans
def fE:=@Nat.mul_le_mul_right
def fH:=@List.getD_eq_getElem?_getD
def fP:=@List.append_nil
def gB:=@Nat.eq_of_beq_eq_true
def gJ:=@Classical.em
def gK:=@List.mem_map
def gV:=@Array.getElem?_eq_some_iff
def gW:=@List.mem_of_mem_take
def iv:=@Nat.add_assoc
def iA:=@List.nil_append
def iC:=@Classical.byContradiction
def iD:=@Nat.zero_le
def iK:=@Go.Sem.run_pure
def jc:=@List.mem_or_eq_of_mem_set
def ji:=@List.map_nil
def jD:=@Classical.choose_spec
def jE:=@List.getElem?_eq_none
def jT:=@Option.map_eq_some_iff
def jX:=@List.length_map
def j9:=@List.take_append_drop
def kG:=@List.getElem?_cons_succ
def kT:=@List.mem_of_getElem?
def kU:=@List.length_nil
def lI:=@List.map_append
def lQ:=@List.getElem?_take
def mz:=@Go.Code.wp_mono
def mB:=@List.findIdx_lt_length_of_exists
def mC:=@List.replicate_succ
def mH:=@Nat.min_eq_left
def mI:=@Nat.not_lt_zero
def mQ:=@List.getElem?_eq_some_iff
def mW:=@List.mem_append_right
def ng:=@Array.toList_inj
def nh:=@List.not_mem_nil
def ni:=@List.set_cons_zero
def nm:=@List.getElem?_take_of_lt
def nu:=@Nat.mul_one
def nv:=@if_false
def nB:=@List.append_assoc
def nH:=@List.dropLast_concat_getLast
def nX:=@bne_eq_false_iff_eq
def oB:=@Nat.add_mul
def oT:=@Bool.false_eq_true
def oU:=@Nat.le_of_ble_eq_true
def pJ:=@List.length_set
def pK:=@cond_true
def qC:=@List.length_reverse
def qW:=@List.length_take
def qX:=@List.map_toArray
def qY:=@List.mem_range
def rC:=@List.getLast?_eq_some_getLast
def rD:=@List.take_append_of_le_length
def rL:=@List.getElem?_drop
def rO:=@List.take_of_length_le
def sk:=@Option.some.inj
def sQ:=@List.getElem?_toArray
def sR:=@List.sizeOf_lt_of_mem
def td:=@List.flatten_cons
def tf:=@Nat.le_succ_of_le
def th:=@Ne.symm
def uf:=@List.mem_of_mem_drop
def ui:=@Nat.add_zero
def uj:=@Option.getD_some
def uH:=@Array.getElem?_push
def uI:=@List.flatten_append
def vw:=@congrArg
def vy:=@Option.map_some
def vX:=@List.mem_singleton
def vY:=@List.set_cons_succ
def vZ:=@Nat.lt_of_le_of_lt
def wz:=@List.getElem?_cons_zero
def yg:=@Bool.not_eq_true'
def yh:=@Int.lt_or_le
def yi:=@if_true
def zQ:=@cond_false
def DI:=@Array.getD_eq_getD_getElem?
def DJ:=@Nat.succ_mul
def FY:=@Nat.eq_zero_or_pos
def FZ:=@not_or
def Ga:=@or_false
def HJ:=@List.drop_eq_getElem_cons
def HK:=@List.mem_take_iff_getElem
def Il:=@List.getElem?_set
def LF:=@List.all_eq_true
def Nn:=@List.length_eq_one_iff
def No:=@List.map_set
def Np:=@Nat.le_of_eq
def NR:=@Bool.eq_iff_iff
def Rb:=@Nat.mul_le_mul
def Rf:=@Iff.rfl
def RS:=@List.length_take_le
def RT:=@List.replicate_zero
def SH:=@List.all_cons
def SI:=@Prod.mk.injEq
def TZ:=@Array.ext_getElem?
def T5:=@bne_iff_ne
def VA:=@List.any_nil
def VB:=@List.flatMap_cons
def VC:=@List.reverse_cons
def VD:=@Nat.le_of_lt
def VE:=@Nat.sub_self
def VF:=@Option.some.injEq
def VJ:=@Array.getElem?_setIfInBounds_ne
def Xd:=@List.any_eq_true
def aar:=@Bool.not_false
def aas:=@Int.tdiv_eq_ediv_of_nonneg
def aat:=@List.take_take
def aau:=@Array.mapM_eq_mapM_toList
def aav:=@List.exists_mem_of_ne_nil
def aaw:=@List.getElem?_eq_none_iff
def abk:=@Array.getElem?_replicate
def abl:=@Bool.false_or
def abm:=@Bool.not_true
def abn:=@Bool.or_false
def abo:=@List.eq_of_mem_replicate
def abp:=@List.getElem?_eq_getElem
def abq:=@List.set_eq_of_length_le
def acI:=@Nat.add_sub_cancel_left
def adm:=@List.drop_of_length_le
def adn:=@List.length_pos_of_mem
def ado:=@List.set_set
def adr:=@List.eq_nil_or_concat
def aeR:=@Int.add_mul
def aeS:=@List.getElem?_modify
def aeT:=@List.set_append_left
def aeU:=@Nat.le_refl
def aeX:=@List.getElem?_range
def afv:=@Bool.not_eq_false'
theorem O.{u}{α:Sort u}{a:α}:a=a:=rfl
theorem bY{n:Nat}:n<=n:=aeU n
theorem sp{p q:Prop}(h:p)(t:p->q:=by intro h;simpa using h):q:=t h
theorem dit{p A B:Prop}{i:Decidable p}(f:p->A)(g:¬p->B):(decide p=true->A)/\(decide p=false->B):=⟨λh=>f (of_decide_eq_true h),λh=>g (of_decide_eq_false h)⟩
theorem cB{p:Prop}(h:p:=by grind):p:=h
theorem V{p:Prop}(h:p:=by omega):p:=h
theorem bO{p:Prop}(h:p:=by simp):p:=h
theorem cD{p:Prop}(h:p:=by decide):p:=h
theorem eX{p:Prop}(h:p:=by simp;omega):p:=h
end Go.Vc
namespace Go.Vc
section
variable{d:Value}{n:Nat}{a:Act}
abbrev bg:=Array Obj
abbrev aj:=Value->bg->Prop
def aS(m:bg)(b o:Nat):Option Value:=
 match m[b]? with
 |some (.cells c _ _)=>c[o]?
 |_=>none
def CO(m:bg)(b o:Nat):Bool:=
 match m[b]? with
 |some (.cells _ _ (c,a))=>c<=o&&o<a
 |_=>false
def vg(m:bg)(b o:Nat)(d:Value):bg:=
 m.modify b λ
  | .cells c e f=>.cells (c.setIfInBounds o d) e f
  |x=>x
theorem Eb(w:World)(b o:Nat):w.cell? ⟨b,o,none⟩=aS w.heap b o:=by
 grind [Go.World.cell?,aS]
def Wj(w:World)(b o:Nat):w.frozen? ⟨b,o,none⟩=CO w.heap b o:=by
 grind [Go.World.frozen?,CO]
def TC(w:World)(b o:Nat)(d:Value):(w.setCell ⟨b,o,none⟩ d).heap=vg w.heap b o d:=by
 grind [Go.World.setCell,vg]
@[grind cases] structure rT (w w':World):Prop where
 os:w'.os=w.os
 Xa:w'.tape=w.tape
 Qn:w'.output=w.output
def rT.cU(w:World):rT w w:=⟨rfl,rfl,rfl⟩
def rT.J{a b c:World}(h:rT a b)(k:rT b c):rT a c:=by constructor<;>grind [rT.os,rT.Xa,rT.Qn]
def bK(P:Program)(f:FuncId)(b:ap)(m:bg)(K:aj):Prop:=
 ∀w:World,w.heap=m->Calls P f b.toArray w λe a=>∃d,e=.returned d/\rT w a/\K d a.heap
theorem bK.aP{P:Program}{f:FuncId}{b:ap}{m:bg}{K a:aj}(h:bK P f b m K)
 (g:∀d c,K d c->a d c):bK P f b m a:=
 λw j=>(h w j).mono λ_ _⟨d,e,i,c⟩=>⟨d,e,i,g _ _ c⟩
inductive E where
 |nil
 |mk (b o len cap:Nat)
 |DK (b o sp:Nat)
def E.v:E->Value
 | .nil=>.slice none 0 0
 | .mk b o l c=>.slice (some ⟨b,o,none⟩) l c
 | .DK b o sp=>.slice (some ⟨b,o,some sp⟩) 0 0
def E.len:E->Nat
 | .nil=>0
 | .mk _ _ l _=>l
 | .DK _ _ _=>0
def E.cap:E->Nat
 | .nil=>0
 | .mk _ _ _ c=>c
 | .DK _ _ _=>0
def E.bz:E->Nat
 | .nil=>0
 | .mk b _ _ _=>b
 | .DK b _ _=>b
def E.off:E->Nat
 | .nil=>0
 | .mk _ o _ _=>o
 | .DK _ o _=>o
@[simp] theorem E.XE (b o sp:Nat):(E.DK b o sp).len=0:=rfl
@[simp] theorem E.aaG (b o sp:Nat):(E.DK b o sp).cap=0:=rfl
@[simp] theorem E.Tn:E.nil.len=0:=rfl
@[simp] theorem E.aaH:E.nil.cap=0:=rfl
@[simp] theorem E.aeV:E.nil.bz=0:=rfl
@[simp] theorem E.aeW:E.nil.off=0:=rfl
@[simp] theorem E.kv (b o l c:Nat):(E.mk b o l c).len=l:=rfl
@[simp] theorem E.SU (b o l c:Nat):(E.mk b o l c).cap=c:=rfl
@[simp] theorem E.lT (b o l c:Nat):(E.mk b o l c).bz=b:=rfl
@[simp] theorem E.vP (b o l c:Nat):(E.mk b o l c).off=o:=rfl
def E.Ew:E->Bool
 | .nil=>true
 | .mk _ _ _ _=>false
 | .DK _ _ _=>false
@[simp] theorem E.adq:E.nil.Ew=true:=rfl
@[simp] theorem E.adp (b o sp:Nat):(E.DK b o sp).Ew=false:=rfl
@[simp] theorem E.ad1 (b o l c:Nat):(E.mk b o l c).Ew=false:=rfl
def E.cW:E->Option Addr
 | .nil=>none
 | .mk b o _ _=>some ⟨b,o,none⟩
 | .DK b o sp=>some ⟨b,o,some sp⟩
def E.adl(s:E):s.v=.slice s.cW s.len s.cap:=by cases s<;>rfl
inductive Ce where
 |i (n:Int)
 |u (k:IntKind) (n:Int)
 |t (x:Bool)
 |s (x:E)
 |p (b o:Nat)
 |pn
 |fn (f:Fn) (first captured:Array Value)
 |fv (q:Fn×Array Value×Array Value)
 |nf
 |str (x:ByteArray)
 |mp (b:Nat)
 |mn
 |bp (k b o:Nat)
 |pp (q:Option (Nat×Nat))
abbrev ak:=List (List Ce)
abbrev ae:=List Ce
def Ce.v:Ce->Value
 | .i n=>.int .i64 n
 | .u k n=>.int k n
 | .t x=>.bool x
 | .s x=>x.v
 | .p b o=>.pointer (some ⟨b,o,none⟩)
 | .pn=>.pointer none
 | .fn f a c=>.func f a c
 | .fv q=>.func q.1 q.2.1 q.2.2
 | .nf=>.nilFunc
 | .str x=>.string x
 | .mp b=>.map (some b)
 | .mn=>.map none
 | .bp _ b o=>.pointer (some ⟨b,o,none⟩)
 | .pp q=>.pointer (q.map λq=>⟨q.1,q.2,none⟩)
inductive AV where
 |c (x:Ce)
 |agg (l:ae)
abbrev aH:=List AV
def AV.v:AV->Value
 | .c x=>x.v
 | .agg l=>.agg (l.map Ce.v).toArray
inductive SV where
 |c (x:Ce)
 |tt
 |ff
 |agg (l:ae)
 |tup (l:aH)
 |un
 |jO
 |box (b e:Nat) (l:ae)
 |DZ (b e:Nat) (l:ae)
abbrev aB:=List SV
def SV.v:SV->Value
 | .c x=>x.v
 | .tt=>.bool true
 | .ff=>.bool false
 | .agg l=>.agg (l.map Ce.v).toArray
 | .tup l=>.tuple (l.map AV.v).toArray
 | .un=>undef
 | .jO=>undef
 | .box _ _ _=>undef
 | .DZ _ _ _=>undef
def SV.Is:SV->Value->Prop
 | .jO,_=>True
 | .box _ _ _,_=>True
 | .DZ _ _ _,_=>True
 |s,d=>d=s.v
def AV.sv:AV->SV
 | .c x=>.c x
 | .agg l=>.agg l
def AV.aft(x:AV):x.sv.v=x.v:=by cases x<;>rfl
abbrev Fr:=List (Nat×SV)
def kM:Fr->Nat->SV
 |[],_=>.jO
 |(u,x)::r,t=>bif Nat.beq u t then x else kM r t
def SV.nb:SV->SV
 | .box _ _ _=>.jO
 | .DZ _ _ _=>.jO
 |x=>x
def yr(a:Fr)(d:Option Nat)(x:SV):Fr:=
 match d with
 |some d=>(d,x.nb)::a
 |none=>a
def SV.ZZ{x:SV}(h:x.Is d):x.nb.Is d:=by
 cases x<;>first|exact h|trivial
def Ce.mM(x:Ce):x.v.cells=#[x.v]:=by
 cases x with
 |s y=>cases y<;>rfl
 |_=>rfl
def nL:Value->Option Ce
 | .int .i64 n=>some (.i n)
 | .int k n=>some (.u k n)
 | .bool x=>some (.t x)
 | .slice none 0 0=>some (.s .nil)
 | .pointer none=>some .pn
 | .nilFunc=>some .nf
 | .string x=>some (.str x)
 |_=>none
def Se{x:Value}{c:Ce}(h:nL x=some c):c.v=x:=by
 unfold nL at h;split at h<;>simp at h<;>subst h<;>rfl
def tE:ap->Option ae
 |[]=>some []
 |d::b=>match nL d,tE b with
  |some c,some a=>some (c::a)
  |_,_=>none
def PE:∀{b:ap}{a:ae},tE b=some a->a.map Ce.v=b
 |[],_,h=>by simp[tE]at h;subst h;rfl
 |d::b,a,h=>by
  simp only[tE]at h;split at h
  .rename_i f g c e;simp at h;subst h;simp[Se c,PE e]
  .simp at h
def J8:Value->SV
 | .bool true=>.tt
 | .bool false=>.ff
 | .agg a=>match tE a.toList with
  |some l=>.agg l
  |none=>.jO
 | .tuple a=>bif a.toList.isEmpty then .un else .jO
 |d=>match nL d with
  |some c=>.c c
  |none=>.jO
def V8(x:Value):(J8 x).Is x:=by
 unfold J8;split
 .rfl
 .rfl
 .rename_i a;split
  .rename_i l b;show Value.agg a=.agg (l.map Ce.v).toArray;rw[PE b]
  .trivial
 .rename_i a;cases h:a.toList.isEmpty
  .trivial
  .show Value.tuple a=undef;have:a=#[]:=sp h;rw[this];rfl
 .split
  .rename_i c a;exact(Se a).symm
  .trivial
def ev(a:Fr):Operand->SV
 | .tmp t=>(kM a t).nb
 | .const d=>J8 d
 | .global g=>.c (.p g 0)
 | .func f=>.c (.fn (.func f) #[] #[])
@[grind cases] structure mD (n:Nat) (fr:Fr) (a:Act):Prop where
 aQ:a.tmps.size=n
 nN:a.defers=[]
 bt:∀t,(kM fr t).Is (a.tmps.getD t undef)
def mD.ev{b:Fr}(h:mD n b a)(x:Operand):(ev b x).Is (a.eval x):=by
 cases x with
 |tmp t=>exact SV.ZZ (h.bt t)
 |const d=>exact V8 d
 |global g=>rfl
 |func f=>rfl
def mD.cG{c:Fr}(h:mD n c a){b:Option Nat}{x:SV}(g:x.Is d)(hd:∀t,b=some t->t<n):
 mD n (yr c b x) (a.put b d):=by
 cases b with
 |none=>exact h
 |some b=>
  refine⟨by simpa[Act.put]using h.aQ,h.nN,λt=>?_⟩
  have f:b<a.tmps.size:=by grind [mD.aQ]
  simp only[yr,kM,Act.put]
  by_cases e:b=t
  .subst e
   simp only[Nat.beq_refl,pK]
   simpa[f]using SV.ZZ g
  .have:Nat.beq b t=false:=by
    cases i:Nat.beq b t
    .rfl
    .grind [Nat.eq_of_beq_eq_true]
   simp only[this,zQ]
   have:=h.bt t
   simpa[VJ e]using this
def mD.eB{b:Fr}(h:mD n b a){t:Nat}{x:SV}(c:∀d,x.Is d):mD n ((t,x)::b) a:=by
 constructor<;>grind [mD.aQ,mD.nN,kM,Nat.beq,mD.bt]
def mD.jO{b:Fr}(h:mD n b a)(t:Nat):mD n ((t,.jO)::b) a:=by
 refine⟨h.aQ,h.nN,λu=>?_⟩;simp only[kM];cases c:Nat.beq t u
 .exact h.bt u
 .trivial
end
section
variable{P:Program}{t b e:Nat}
inductive Sh where
 |I
 |U (k:IntKind)
 |T
 |S
 |P
 |F
 |M
 |Q
 deriving DecidableEq
abbrev aA:=List Sh
abbrev aw:=List (Nat×Sh)
abbrev Sh.ty:Sh->Type
 | .I=>Int
 | .U _=>Int
 | .T=>Bool
 | .S=>E
 | .P=>Nat×Nat
 | .F=>Fn×Array Value×Array Value
 | .M=>Nat
 | .Q=>Option (Nat×Nat)
abbrev Sh.mk:(s:Sh)->s.ty->Ce
 | .I,n=>.i n
 | .U k,n=>.u k n
 | .T,x=>.t x
 | .S,x=>.s x
 | .P,q=>.p q.1 q.2
 | .F,v=>.fv v
 | .M,b=>.mp b
 | .Q,q=>.pp q
def Sh.zero:Sh->Ce
 | .I=>.i 0
 | .U k=>.u k 0
 | .T=>.t false
 | .S=>.s .nil
 | .P=>.pn
 | .F=>.nf
 | .M=>.mn
 | .Q=>.pp none
inductive TK where
 |cell
 |slice (elem:Nat)
 |struct (offs:ao)
 |tuple (ts:ad)
 |map (key elem:Nat)
structure TI where
 Mc:TK
 sh:aA
 bytes:Nat
abbrev TT:=List (Nat×TI)
def jx:TT->Nat->Option TI
 |[],_=>none
 |(u,x)::r,t=>bif Nat.beq u t then some x else jx r t
def TE:Sh->Value->Bool
 | .I,.int .i64 0=>true
 | .U k,.int a 0=>decide (k=a)
 | .T,.bool false=>true
 | .S,.slice none 0 0=>true
 | .P,.pointer none=>true
 | .F,.nilFunc=>true
 | .M,.map none=>true
 | .Q,.pointer none=>true
 |_,_=>false
def TF{s:Sh}{v:Value}(h:TE s v=true):v=s.zero.v:=by
 unfold TE at h;split at h<;>first|rfl|(simp at h;subst h;rfl)|simp at h
def JR:ap->aA->Bool
 |[],[]=>true
 |v::b,s::a=>TE s v&&JR b a
 |_,_=>false
theorem NQ:∀{b:ap}{a:aA},JR b a=true->b=a.map λs=>s.zero.v
 |[],[],_=>O
 |v::b,s::a,h=>by
  simp only[JR,eZ]at h;simp[TF h.1,NQ h.2]
 |[],_::_,h=>by simp[JR]at h
 |_::_,[],h=>by simp[JR]at h
def Sq:afD->ao->Bool
 |[],[]=>true
 |f::a,(o,t)::r=>Nat.beq f.offset o&&Nat.beq f.type t&&Sq a r
 |_,_=>false
theorem Qk:∀{a:afD}{b:ao},Sq a b=true->a.map (λf=>(f.offset,f.type))=b
 |[],[],_=>O
 |f::a,(o,t)::r,h=>by
  simp only[Sq,eZ]at h;simp[gB h.1.1,gB h.1.2,Qk h.2]
 |[],_::_,h=>by simp[Sq]at h
 |_::_,[],h=>by simp[Sq]at h
def BD:TypeDesc->aA->Bool
 | .bool,[.T]=>true
 | .int .i64,[.I]=>true
 | .int k,[.U k']=>decide (k=k')
 | .pointer _,[.P]=>true
 | .pointer _,[.Q]=>true
 | .func ..,[.F]=>true
 |_,_=>false
def Gf(i:TypeInfo)(a:TI)(b:Bool):Bool:=
 Nat.beq i.size a.sh.length&&Nat.beq i.bytes a.bytes&&
 (match i.zero with
  |some (.agg c)=>b&&JR c.toList a.sh
  |some z=>!b&&JR [z] a.sh
  |none=>false)
def tcm(t:Nat):Nat:=t+1000000
def aaI(P:Program)(t:Nat):Bool:=
 match P.underlying t with
 |some (.struct a)=>a.toList.all (λf=>f.name != "_")&&!P.stoodInHeld t&&!P.eqGuardType P.depth t
 |_=>false
def Cm(P:Program)(t:Nat)(a:TI):Bool:=
 match a.Mc with
 | .tuple _=>if t<1000000 then true else aaI P (t -1000000)
 | .slice e=>match P.info? t,P.underlying t with
  |some i,some (.slice b)=>Nat.beq e b&&Gf i a false
  |_,_=>false
 | .struct d=>match P.info? t,P.underlying t with
  |some i,some (.struct c)=>Sq c.toList d&&Gf i a true
  |_,_=>false
 | .map k e=>match P.info? t,P.underlying t with
  |some i,some (.map c b)=>Nat.beq k c&&Nat.beq e b&&Gf i a false
  |_,_=>false
 | .cell=>match P.info? t,P.underlying t with
  |some i,some d=>BD d a.sh&&Gf i a false
  |_,_=>false
def yJ(P:Program)(T:TT):Prop:=T.all (λx=>Cm P x.1 x.2)=true
def Vp:∀{T:TT}{t:Nat}{a:TI},jx T t=some a->(t,a)∈T
 |[],_,_,h=>by simp[jx]at h
 |(u,x)::r,t,a,h=>by
  simp only[jx]at h;cases b:Nat.beq u t
  .rw[b]at h;exact aX _ (Vp h)
  .grind [Nat.eq_of_beq_eq_true,List.mem_cons_self]
theorem yJ.Cm{T:TT}(h:yJ P T){a:TI}(b:jx T t=some a):Cm P t a=true:=
 LF.1 h _ (Vp b)
def yJ.cmp{T:TT}(h:yJ P T){l:ad}{c:aA}(a:jx T (tcm t)=some ⟨.tuple l,c,b⟩):aaI P t=true:=by
 have:=h.Cm a;simp only[Go.Vc.Cm]at this;rw[aW (by unfold tcm;omega),show tcm t -1000000=t by unfold tcm;omega]at this;exact this
@[grind cases] structure Pm (P:Program) (t:Nat) (ti:TI) (agg:Bool):Prop where
 afA:∃i,P.info? t=some i/\i.size=ti.sh.length/\i.bytes=ti.bytes/\
  ∃z,i.zero=some z/\z.cells.toList=(ti.sh.map λs=>s.zero.v)/\(agg=false->∀cs,z≠.agg cs)
theorem wI{b:TI}{i:TypeInfo}{a:Bool}(c:P.info? t=some i)(h:Gf i b a=true):Pm P t b a:=by
 constructor<;>grind [Gf,Nat.eq_of_beq_eq_true,Go.Value.cells,NQ]
def nl{a:aA}(h:Cm P t ⟨.slice e,a,b⟩=true):P.underlying t=some (.slice e)/\Pm P t ⟨.slice e,a,b⟩ false:=by
 grind [Cm,Nat.eq_of_beq_eq_true,wI]
def Gs{k:Nat}{a:aA}(h:Cm P t ⟨.map k e,a,b⟩=true):P.underlying t=some (.map k e)/\Pm P t ⟨.map k e,a,b⟩ false:=by
 grind [Cm,Nat.eq_of_beq_eq_true,wI]
def qT{a:ao}{d:aA}(h:Cm P t ⟨.struct a,d,b⟩=true):
 (∃c,P.underlying t=some (.struct c)/\c.toList.map (λf=>(f.offset,f.type))=a)/\Pm P t ⟨.struct a,d,b⟩ true:=by
 grind [Cm,Qk,wI]
def qS{a:aA}(h:Cm P t ⟨.cell,a,b⟩=true):
 (∃d,P.underlying t=some d/\BD d a=true)/\Pm P t ⟨.cell,a,b⟩ false:=by
 grind [Cm,wI]
def TI.agg(a:TI):Bool:=match a.Mc with| .struct _=>true|_=>false
def TI.yS(a:TI):Bool:=match a.Mc with| .tuple _=>true|_=>false
def np{T:TT}(f:yJ P T){d:TI}(g:jx T t=some d)(j:d.yS=false)(w:World):
 (sizeOf t).run P w=.ok d.sh.length w:=by
 have h:=f.Cm g
 obtain⟨Mc,k,b⟩:=d
 have:∃i,P.info? t=some i/\i.size=k.length:=by
  cases Mc with
  |cell=>obtain⟨_,⟨i,a,c,_⟩⟩:=qS h;exact⟨i,a,c⟩
  |slice e=>obtain⟨_,⟨i,a,c,_⟩⟩:=nl h;exact⟨i,a,c⟩
  |map l e=>obtain⟨_,⟨i,a,c,_⟩⟩:=Gs h;exact⟨i,a,c⟩
  |struct o=>obtain⟨_,⟨i,a,c,_⟩⟩:=qT h;exact⟨i,a,c⟩
  |tuple l=>simp[TI.yS]at j
 obtain⟨i,a,c⟩:=this
 simp[sizeOf,typeInfo,a,c]
def KN{T:TT}(g:yJ P T){f:TI}(j:jx T t=some f)(k:f.yS=false):
 ∃i,i.bytes=f.bytes/\i.size=f.sh.length/\(∀w,(typeInfo t).run P w=.ok i w)/\P.info? t=some i:=by
 have h:=g.Cm j
 obtain⟨Mc,l,b⟩:=f
 have:∃i,P.info? t=some i/\i.size=l.length/\i.bytes=b:=by
  cases Mc with
  |cell=>obtain⟨_,⟨i,a,c,d,_⟩⟩:=qS h;exact⟨i,a,c,d⟩
  |slice e=>obtain⟨_,⟨i,a,c,d,_⟩⟩:=nl h;exact⟨i,a,c,d⟩
  |map m e=>obtain⟨_,⟨i,a,c,d,_⟩⟩:=Gs h;exact⟨i,a,c,d⟩
  |struct o=>obtain⟨_,⟨i,a,c,d,_⟩⟩:=qT h;exact⟨i,a,c,d⟩
  |tuple m=>simp[TI.yS]at k
 obtain⟨i,a,c,d⟩:=this
 exact⟨i,d,c,λw=>by simp[typeInfo,a],a⟩
def Aq{T:TT}(m:yJ P T){k:TI}(n:jx T t=some k)(o:k.yS=false):
 ∃z,z.cells.toList=k.sh.map (λs=>s.zero.v)/\(∀w,(zeroValue t).run P w=.ok z w)/\(k.agg=false->∀a,z≠.agg a):=by
 have h:=m.Cm n
 obtain⟨Mc,l,b⟩:=k
 have:∃i,P.info? t=some i/\∃z,i.zero=some z/\z.cells.toList=(l.map λs=>s.zero.v)/\((TI.mk Mc l b).agg=false->∀a,z≠.agg a):=by
  cases Mc with
  |cell=>obtain⟨_,⟨i,a,g,j,z,c,d,f⟩⟩:=qS h;exact⟨i,a,z,c,d,λ_=>f O⟩
  |slice e=>obtain⟨_,⟨i,a,g,j,z,c,d,f⟩⟩:=nl h;exact⟨i,a,z,c,d,λ_=>f O⟩
  |map p e=>obtain⟨_,⟨i,a,g,j,z,c,d,f⟩⟩:=Gs h;exact⟨i,a,z,c,d,λ_=>f O⟩
  |struct p=>obtain⟨_,⟨i,a,g,j,z,c,d,f⟩⟩:=qT h;exact⟨i,a,z,c,d,λh=>by simp[TI.agg]at h⟩
  |tuple d=>simp[TI.yS]at o
 obtain⟨i,a,z,g,j,c⟩:=this
 exact⟨z,j,λw=>by simp[zeroValue,typeInfo,a,g],c⟩
def Mt{T:TT}(d:yJ P T){a:TI}(f:jx T t=some a)(g:a.yS=false)(w:World):
 (isAgg t).run P w=.ok a.agg w:=by
 have h:=d.Cm f
 obtain⟨Mc,j,b⟩:=a
 cases Mc with
 |cell=>
  obtain⟨⟨i,hd,c⟩,_⟩:=qS h
  unfold BD at c
  split at c<;>first|(simp at c;done)|simp[isAgg,run_underlying hd,TI.agg]
 |slice e=>obtain⟨hd,_⟩:=nl h;simp[isAgg,run_underlying hd,TI.agg]
 |map k e=>obtain⟨hd,_⟩:=Gs h;simp[isAgg,run_underlying hd,TI.agg]
 |struct o=>obtain⟨⟨c,hd,_⟩,_⟩:=qT h;simp[isAgg,run_underlying hd,TI.agg]
 |tuple c=>simp[TI.yS]at g
end
def oL:SV->Option Bool
 | .tt=>some true
 | .ff=>some false
 | .c (.t x)=>some x
 |_=>none
def SV.mT:SV->Bool
 | .jO=>false
 | .box _ _ _=>false
 | .DZ _ _ _=>false
 |_=>true
def eJ(n:Int):Int:=IntKind.i64.wrap n
def Mi{α:Type}:List α->Nat->Option α
 |[],_=>none
 |x::_,0=>some x
 |_::r,n+1=>Mi r n
theorem tR{α:Type}:∀(l:List α)(n:Nat),Mi l n=l[n]?
 |[],_=>by simp[Mi]
 |x::_,0=>by simp[Mi]
 |_::r,n+1=>by simp[Mi,tR r n]
def ldC(m:bg)(b o:Nat):Nat->aA->(ae->Prop)->Prop
 |_,[],k=>k []
 |j,s::r,k=>∃x:s.ty,aS m b (o+j)=some (s.mk x).v/\ldC m b o (j+1) r λl=>k (s.mk x::l)
def abi(a b:Int):Int:=eJ ((a%18446744073709551616).toNat^^^(b%18446744073709551616).toNat:Nat)
def vC(c:BinOp)(a b:Int)(k:SV->Prop):Prop:=
 match c with
 | .add=>k (.c (.i (eJ (a+b))))
 | .sub=>k (.c (.i (eJ (a -b))))
 | .mul=>k (.c (.i (eJ (a*b))))
 | .quo=>b≠0/\k (.c (.i (eJ (a.tdiv b))))
 | .rem=>b≠0/\k (.c (.i (a.tmod b)))
 | .xor=>k (.c (.i (abi a b)))
 | .eql=>k (.c (.t (a==b)))
 | .neq=>k (.c (.t (a !=b)))
 | .lss=>k (.c (.t (decide (a<b))))
 | .leq=>k (.c (.t (decide (a<=b))))
 | .gtr=>k (.c (.t (decide (a>b))))
 | .geq=>k (.c (.t (decide (a>=b))))
 |_=>False
def aaE(c:BinOp)(a b:Bool)(k:SV->Prop):Prop:=
 match c with
 | .eql=>k (.c (.t (a==b)))
 | .neq=>k (.c (.t (!(a==b))))
 |_=>False
def aaU(a:BinOp)(s:E)(k:SV->Prop):Prop:=
 match a with
 | .eql=>k (.c (.t s.Ew))
 | .neq=>k (.c (.t (!s.Ew)))
 |_=>False
def aaV(a:BinOp)(q:Option (Nat×Nat))(k:SV->Prop):Prop:=
 match a with
 | .eql=>k (.c (.t q.isNone))
 | .neq=>k (.c (.t (!q.isNone)))
 |_=>False
def unO(a:UnOp)(x:SV)(k:SV->Prop):Prop:=
 match a,x with
 | .not,.tt=>k .ff
 | .not,.ff=>k .tt
 | .not,.c (.t b)=>k (.c (.t (!b)))
 | .neg,.c (.i n)=>k (.c (.i (eJ (0 -n))))
 |_,_=>False
def E.cut(x:E)(a d e:Nat):E:=
 match x with
 | .nil=>.nil
 | .mk b o _ c=>.mk b (if c=a then o else o+a*e) (d -a) (c -a)
 | .DK b o sp=>.DK b o sp
def SV.cells:SV->Option ae
 | .c x=>some [x]
 | .tt=>some [.t true]
 | .ff=>some [.t false]
 | .agg l=>some l
 |_=>none
def qO(l:ae)(b:Nat)(a:ae):ae:=
 match b,l with
 |0,l=>match a,l with
  |[],l=>l
  |n::a,_::l=>n::qO l 0 a
  |_::_,[]=>[]
 |b+1,x::l=>x::qO l b a
 |_+1,[]=>[]
termination_by structural l
def J4(T:TT)(c:Fr)(e:ao):ae->aG->(ae->Prop)->Prop
 |a,[],k=>k a
 |a,(i,x)::r,k=>
  match Mi e i,(ev c x).cells with
  |some (d,t),some b=>
   match jx T t with
   |some f=>bif !f.yS&&Nat.beq b.length f.sh.length&&Nat.ble (d+b.length) a.length then J4 T c e (qO a d b) r k else False
   |none=>False
  |_,_=>False
def zB(T:TT):ao->Bool
 |[]=>true
 |(_,t)::r=>(match jx T t with|some a=>!a.yS|none=>false)&&zB T r
def Ry(a:Fr)(x:Option Operand)(d:Int)(k:Int->Prop):Prop:=
 match x with
 |none=>k d
 |some x=>match ev a x with
  | .c (.i n)=>k n
  |_=>False
def ac9(T:TT)(t:Nat)(s:E)(n:Int)(k:SV->Prop):Prop:=
 match jx T t with
 |some ⟨.slice e,_,_⟩=>match jx T e with
  |some a=>bif a.yS then False else 0<=n/\n<(s.len:Int)/\k (.c (.p s.bz (s.off+n.toNat*a.sh.length)))
  |none=>False
 |_=>False
def UW(T:TT)(m:bg)(t b o:Nat)(k:SV->Prop):Prop:=
 match jx T t with
 |some ⟨.struct _,a,_⟩=>ldC m b o 0 a λl=>k (.agg l)
 |some ⟨.cell,[s],_⟩=>∃x:s.ty,aS m b o=some (s.mk x).v/\k (.c (s.mk x))
 |some ⟨.slice _,[_],_⟩=>∃x:E,aS m b o=some x.v/\k (.c (.s x))
 |_=>False
def WU(T:TT)(a:Fr)(t:Nat)(s:E)(d c:Option Operand)(k:SV->Prop):Prop:=
 match jx T t with
 |some ⟨.slice e,_,_⟩=>match jx T e with
  |some b=>bif b.yS then False else
   Ry a d 0 λl=>Ry a c (s.len:Int) λh=>0<=l/\l<=h/\h<=(s.cap:Int)/\k (.c (.s (s.cut l.toNat h.toNat b.sh.length)))
  |none=>False
 |_=>False
def Te(T:TT)(t f:Nat)(l:ae)(k:SV->Prop):Prop:=
 match jx T t with
 |some ⟨.struct c,_,_⟩=>match Mi c f with
  |some (b,u)=>match jx T u with
   |some a=>bif a.yS then False else bif a.agg then k (.agg ((l.drop b).take a.sh.length))else(match Mi l b with|some x=>k (.c x)|none=>False)
   |none=>False
  |none=>False
 |_=>False
def Kc(T:TT)(t f o:Nat)(mk:Nat->SV)(k:SV->Prop):Prop:=
 match jx T t with
 |some ⟨.struct c,_,_⟩=>match Mi c f with
  |some (b,u)=>match jx T u with
   |some a=>bif a.yS||Nat.beq a.sh.length 0 then False else k (mk (o+b))
   |none=>False
  |none=>False
 |_=>False
def OZ(a b:Nat)(k:Prop):Prop:=a=b/\k
theorem kL(b:Nat)(k:Prop):OZ b b k=k:=by simp[OZ]
def Ly:ae->Nat->Nat->Option ae
 |_,_,0=>some []
 |l,o,n+1=>match Mi l o,Ly l (o+1) n with
  |some c,some r=>some (c::r)
  |_,_=>none
def Sb(T:TT)(t:Nat)(a:ae)(o:Nat)(k:SV->Prop):Prop:=
 match jx T t with
 |some ⟨.struct _,b,_⟩=>match Ly a o b.length with
  |some l=>k (.agg l)
  |none=>False
 |some ⟨.cell,[_],_⟩=>match Mi a o with
  |some c=>k (.c c)
  |none=>False
 |some ⟨.slice _,[_],_⟩=>match Mi a o with
  |some c=>k (.c c)
  |none=>False
 |some ⟨.map _ _,[_],_⟩=>match Mi a o with
  |some c=>k (.c c)
  |none=>False
 |_=>False
def Zl(T:TT)(c:Fr)(d:Builtin)(e:ad)(f:aD)(k:SV->Prop):Prop:=
 match d,e,f with
 | .len,[t],[x]=>match jx T t,ev c x with
  |some ⟨.slice _,_,_⟩,.c (.s s)=>k (.c (.i (s.len:Int)))
  |_,_=>False
 | .max,_,[x,y]=>match ev c x,ev c y with
  | .c (.i a),.c (.i b)=>k (.c (.i (if b>a then b else a)))
  |_,_=>False
 | .min,_,[x,y]=>match ev c x,ev c y with
  | .c (.i a),.c (.i b)=>k (.c (.i (if b<a then b else a)))
  |_,_=>False
 |_,_,_=>False
def eqC(T:TT):Nat->ao->ae->ae->Option Bool
 |_,[],[],[]=>some true
 |i,(o,u)::c,.i a::l,.i b::r=>bif Nat.beq o i then match jx T u,eqC T (i+1) c l r with
  |some ⟨.cell,[.I],_⟩,some z=>some (a==b&&z)
  |_,_=>none else none
 |_,_,_,_=>none
def eqA(T:TT)(t:Nat)(l r:ae)(k:SV->Prop):Prop:=
 match jx T (tcm t),jx T t with
 |some ⟨.tuple _,_,_⟩,some ⟨.struct a,_,_⟩=>match eqC T 0 a l r with
  |some z=>k (.c (.t z))
  |none=>False
 |_,_=>False
def rd(T:TT)(a:Fr)(m:bg)(k:SV->Prop):Op->Prop
 | .move x| .assign x=>k (ev a x)
 | .pick d c b=>match ev a d with
  | .tt=>k (ev a c)
  | .ff=>k (ev a b)
  | .c (.t x)=>match oL (ev a c),oL (ev a b)with
   |some y,some z=>k (.c (.t (bif x then y else z)))
   |_,_=>False
  |_=>False
 | .nilCheck x=>match ev a x with
  | .c (.p b o)=>k (.c (.p b o))
  | .c (.bp q b o)=>k (.c (.bp q b o))
  | .c (.fn (.func f) c d)=>k (.c (.fn (.func f) c d))
  | .c (.fv q)=>∃g,q.1=.func g/\k (.c (.fv q))
  | .c (.pp q)=>∃r,q=some r/\k (.c (.p r.1 r.2))
  |_=>False
 | .binOp d t x y _=>match ev a x,ev a y with
  | .c (.i c),.c (.i b)=>vC d c b k
  | .c (.s s),.c (.s .nil)=>match jx T t with
   |some ⟨.slice _,_,_⟩=>aaU d s k
   |_=>False
  | .c (.pp q),.c .pn=>match jx T t with
   |some ⟨.cell,[.Q],_⟩=>aaV d q k
   |_=>False
  | .agg l,.agg r=>match d with
   | .eql=>eqA T t l r k
   |_=>False
  |sx,e=>match jx T t,oL sx,oL e with
   |some ⟨.cell,[.T],_⟩,some c,some b=>aaE d c b k
   |_,_,_=>False
 | .unOp d _ x=>unO d (ev a x) k
 | .convert s t x=>match jx T s,jx T t,ev a x with
  |some ⟨.cell,[_],_⟩,some ⟨.cell,[.I],_⟩,.c (.u _ n)=>k (.c (.i (eJ n)))
  |_,_,_=>False
 | .fieldAddr t x f=>match ev a x with
  | .c (.p b o)=>Kc T t f o (λo=>.c (.p b o)) k
  | .c (.bp q b o)=>Kc T t f o (λo=>.c (.bp q b o)) k
  |_=>False
 | .field t x f=>match ev a x with
  | .agg l=>Te T t f l k
  |_=>False
 | .indexAddr t x i=>match ev a x,ev a i with
  | .c (.s s),.c (.i n)=>ac9 T t s n k
  |_,_=>False
 | .load t x=>match ev a x with
  | .c (.p b o)=>UW T m t b o k
  | .c (.bp q b o)=>match kM a q with
   | .box c _ d=>OZ c b (Sb T t d o k)
   | .DZ c _ d=>OZ c b (Sb T t d o k)
   |_=>UW T m t b o k
  |_=>False
 | .extract x i=>match ev a x with
  | .tup l=>match Mi l i with
   |some y=>k y.sv
   |none=>False
  |_=>False
 | .slice t x c b none=>match ev a x with
  | .c (.s s)=>WU T a t s c b k
  |_=>False
 | .build t c=>match jx T t with
  |some ⟨.struct b,d,_⟩=>bif zB T b then J4 T a b (d.map Sh.zero) c.toList λl=>k (.agg l)else False
  |_=>False
 | .call ⟨.builtin c,b,d⟩=>Zl T a c d.toList b.toList k
 |_=>False
def oX(a:Fr)(q b e:Nat)(l:ae):Prop:=kM a q=.box b e l\/kM a q=.DZ b e l
@[grind cases] structure Bx (n:Nat) (fr:Fr) (m:bg):Prop where
 bz:∀q b e l,oX fr q b e l->m[b]? =some (.cells (l.map Ce.v).toArray e)
 V9:∀q q' b e l b' e' l',q≠q'->oX fr q b e l->oX fr q' b' e' l'->b≠b'
 NA:∀q b e l,oX fr q b e l->n<=q
def YX(T:TT)(c:Fr):Op->ao
 | .load t x=>match ev c x,jx T t with
  | .c (.p b o),some a=>(List.range a.sh.length).map λj=>(b,o+j)
  | .c (.bp _ b o),some a=>(List.range a.sh.length).map λj=>(b,o+j)
  |_,_=>[]
 |_=>[]
section
variable{s:SV}{b:Bool}
theorem SV.Is.eq{v:Value}(h:s.Is v)(a:s.mT=true):v=s.v:=by
 cases s<;>first|exact h|simp[SV.mT]at a
def rj:s.Is s.v:=by cases s<;>first|rfl|trivial
theorem mD.eq{n:Nat}{b:Fr}{a:Act}(h:mD n b a){x:Operand}{s:SV}(c:Vc.ev b x=s)(d:s.mT=true):a.eval x=s.v:=by
 have:=h.ev x;grind [SV.Is.eq]
theorem Bd(h:oL s=some b):s.mT=true/\s.v=.bool b:=by
 unfold oL at h;grind [SV.mT,SV.v,Ce.v]
def mD.evB{n:Nat}{c:Fr}{a:Act}(h:mD n c a){x:Operand}(d:oL (Vc.ev c x)=some b):a.eval x=.bool b:=by
 rw[h.eq O (Bd d).1,(Bd d).2]
theorem zU(b o n:Nat):(⟨b,o,none⟩:Addr).add n=⟨b,o+n,none⟩:=by
 grind [Go.Addr.add]
theorem Gj:∀(l:ae)(a:Nat)(b:ae)(i:Nat),a+b.length<=l.length->
 (qO l a b)[i]? =if a<=i/\i<a+b.length then b[i -a]? else l[i]?
 |[],0,[],i,_=>by simp[qO]
 |[],0,_::_,_,h=>by simp at h
 |[],_+1,_,_,h=>by simp at h
 |x::l,0,[],i,_=>by simp[qO]
 |x::l,0,n::b,i,h=>by
  simp only[qO];cases i with
  |zero=>simp
  |succ i=>
   have:=Gj l 0 b i cB;simp only[kG,this];simp
 |x::l,a+1,b,i,h=>by
  simp only[qO];cases i with
  |zero=>simp
  |succ i=>
   have:=Gj l a b i cB;simp only[kG,this];have e:(i+1 -(a+1))=i -a:=V;simp only[e];congr 1;simp;omega
def Sk(c:ap):∀(k a:Nat)(b:Array Value)(i:Nat),
 ((c.zipIdx k).foldl (λ(d:Array Value)(p:Value×Nat)=>d.setIfInBounds (a+p.2) p.1) b)[i]? =
  if a+k<=i/\i<a+k+c.length/\i<b.size then c[i -(a+k)]? else b[i]? :=by
 induction c with
 |nil=>intro k a b i;simp;intro h;omega
 |cons v c d=>
  intro k a b i
  simp only[List.zipIdx_cons,List.foldl_cons,d,Array.size_setIfInBounds,dz]
  by_cases e:i=a+k
  .grind [Array.size]
  .grind [Array.getElem?_setIfInBounds_ne,List.length,Array.size,List.getElem?_cons_succ]
def tD{l:ae}(h:s.cells=some l):s.mT=true/\s.v.cells=(l.map Ce.v).toArray:=by
 cases s with
 |c x=>simp[SV.cells]at h;subst h;exact⟨O,by simp[SV.v,Ce.mM]⟩
 |tt=>simp[SV.cells]at h;subst h;exact⟨O,O⟩
 |ff=>simp[SV.cells]at h;subst h;exact⟨O,O⟩
 |agg a=>simp[SV.cells]at h;subst h;exact⟨O,O⟩
 |tup _=>simp[SV.cells]at h
 |un=>simp[SV.cells]at h
 |jO=>simp[SV.cells]at h
 |box _ _ _=>simp[SV.cells]at h
 |DZ _ _ _=>simp[SV.cells]at h
end
section
variable{x y:Operand}{c e:TypeId}{z b f o:Nat}{i:ae}
variable{g:Program}{T:TT}
def sU(g:Program)(T:TT)(h:Fr)(j:bg)(a:Act)(o:Oper)(k:SV->Prop):Prop:=
 ∃x v,k x/\x.Is v/\∀w:World,(∀q∈YX T h o.op,aS w.heap q.1 q.2=aS j q.1 q.2)->(execOp a.eval o).run g w=.ok (.value v) w
variable{n:Nat}{h:Fr}{a:Act}{j:bg}{k:SV->Prop}{q:Option Tmp}{v:TypeId}{u:String}{p:Array Edge}{r:Option (Nat×Bool)}
def ZI(c:mD n h a)(b:k (ev h x)):sU g T h j a ⟨q,.move x,v,u,p,r⟩ k:=
 ⟨_,_,b,c.ev x,λw _=>by simp[execOp]⟩
def Yw(c:mD n h a)(b:k (ev h x)):sU g T h j a ⟨q,.assign x,v,u,p,r⟩ k:=
 ⟨_,_,b,c.ev x,λw _=>by simp[execOp]⟩
def Wo(d:mD n h a){f:Operand}(c:rd T h j k (.pick f x y)):sU g T h j a ⟨q,.pick f x y,v,u,p,r⟩ k:=by
 simp only[rd]at c;split at c
 .rename_i e;exact⟨_,_,c,d.ev x,λw _=>by simp[execOp,d.eq e O,SV.v,asBool]⟩
 .rename_i e;exact⟨_,_,c,d.ev y,λw _=>by simp[execOp,d.eq e O,SV.v,asBool]⟩
 .rename_i b e;split at c
  .rename_i m o i l;refine⟨_,_,c,rj,λw _=>?_⟩;simp[execOp,d.eq e O,SV.v,Ce.v,asBool,d.evB i,d.evB l];try (cases b<;>rfl)
  .exact c.elim
 .exact c.elim
def PU(e:mD n h a)(d:rd T h j k (.nilCheck x)):sU g T h j a ⟨q,.nilCheck x,v,u,p,r⟩ k:=by
 simp only[rd]at d;split at d
 .rename_i b o c;exact⟨_,_,d,rj,λw _=>by simp[execOp,e.eq c O,SV.v,Ce.v]⟩
 .rename_i l b o c;exact⟨_,_,d,rj,λw _=>by simp[execOp,e.eq c O,SV.v,Ce.v]⟩
 .rename_i f i m c;exact⟨_,_,d,rj,λw _=>by simp[execOp,e.eq c O,SV.v,Ce.v]⟩
 .rename_i l c;obtain⟨s,m,i⟩:=d;exact⟨_,_,i,rj,λw _=>by simp[execOp,e.eq c O,SV.v,Ce.v,m]⟩
 .rename_i l c;obtain⟨m,rfl,i⟩:=d;exact⟨_,_,i,rj,λw _=>by simp[execOp,e.eq c O,SV.v,Ce.v]⟩
 .exact d.elim
def aaF{a:BinOp}{x y:Int}(h:vC a x y k):∃s v,k s/\s.Is v/\∀w:World,(binOp a c (.int .i64 x) (.int .i64 y)).run g w=.ok v w:=by
 cases a<;>simp only[vC]at h
 case quo=>exact⟨_,_,h.2,rj,λw=>by simp[binOp,Op.intDiv,h.1,SV.v,Ce.v,eJ]⟩
 case rem=>exact⟨_,_,h.2,rj,λw=>by simp[binOp,Op.intDiv,h.1,SV.v,Ce.v]⟩
 case xor=>exact⟨_,_,h,rj,λw=>by simp[binOp,Op.intBits,SV.v,Ce.v,eJ,abi,IntKind.bits];rfl⟩
 all_goals exact⟨_,_,h,rj,λw=>by simp[binOp,Op.intArith,Op.intCmp,SV.v,Ce.v,eJ]⟩
def Uy(a:BinOp)(c:TypeId)(d e:Operand)(b:IntKind)(x:Int)(y:Value)(w:World):(eqGuard a c d e (.int b x) y).run g w=.ok () w:=by
 cases a<;>simp[eqGuard]
def Tc(a:BinOp)(c:TypeId)(b d:Operand)(x:Bool)(y:Value)(w:World):(eqGuard a c b d (.bool x) y).run g w=.ok () w:=by
 cases a<;>simp[eqGuard]
def We(hd:g.underlying c=some .bool)(x y:Bool)(w:World):(Op.equal c (.bool x) (.bool y)).run g w=.ok (x==y) w:=by
 have:Op.equal c (.bool x) (.bool y)=Op.equalIn (9999+1) c (.bool x) (.bool y):=rfl;rw[this];generalize 9999=z;simp[Op.equalIn,run_underlying hd]
def NU(hd:g.underlying c=some (.slice e))(s:E)(w:World):(Op.equal c s.v (.slice none 0 0)).run g w=.ok s.Ew w:=by
 have:Op.equal c s.v (.slice none 0 0)=Op.equalIn (9999+1) c s.v (.slice none 0 0):=rfl;rw[this];generalize 9999=z;cases s<;>simp[Op.equalIn,run_underlying hd,E.v]
def Ro(hd:g.underlying c=some (.pointer e))(a:Option Addr)(w:World):(Op.equal c (.pointer a) (.pointer none)).run g w=.ok a.isNone w:=by
 have:Op.equal c (.pointer a) (.pointer none)=Op.equalIn (9999+1) c (.pointer a) (.pointer none):=rfl;rw[this];generalize 9999=z;cases a<;>simp[Op.equalIn,run_underlying hd]
def Uz(b:BinOp)(c:TypeId)(d e:Operand)(a:Option Addr)(y:Value)(w:World):(eqGuard b c d e (.pointer a) y).run g w=.ok () w:=by
 cases b<;>simp[eqGuard]
def UA(hd:g.underlying c=some (.int .i64))(x y:Int)(w:World):(Op.equalIn (z+1) c (.int .i64 x) (.int .i64 y)).run g w=.ok (x==y) w:=by
 simp[Op.equalIn,run_underlying hd]
def U1(d:yJ g T){u:Nat}(e:jx T u=some ⟨.cell,[.I],b⟩){a:Array Value}{c:Nat}{v:Value}(h:a[c]? =some v)(w:World):(part u a c).run g w=.ok v w:=by
 simp[part,Mt d e O,TI.agg,h]
def ZD(n:yJ g T){X Y:Array Value}(x:World):∀(h:afD)(e:Nat)(j:ao)(i r:ae)(l:Bool),h.map (λf=>(f.offset,f.type))=j->(∀f∈h,f.name≠ "_")->
 (∀k d,i[k]? =some d->X[e+k]? =some d.v)->(∀k d,r[k]? =some d->Y[e+k]? =some d.v)->eqC T e j i r=some l->
 (forIn (m:=Sem) h ((none,()):Option Bool×PUnit) λf _=>do
  if f.name≠ "_" then
   if !(<-Op.equalIn (z+1) f.type (<-part f.type X f.offset) (<-part f.type Y f.offset))then pure (.done (some false,()))else pure (.yield (none,()))
  else pure (.yield (none,()))).run g x=.ok (if l=true then(none,())else(some false,())) x:=by
 intro h
 induction h with
 |nil=>
  intro e j i r l s t p q c
  subst s
  cases i<;>cases r<;>simp[eqC]at c
  subst c
  simp
 |cons f h I=>
  intro e j i r l s t p q c
  subst s
  simp only[eM]at c
  unfold eqC at c
  split at c
  .simp at*
  .rename_i e _ _ _ _ o N j a i b r A
   obtain⟨⟨rfl,rfl⟩,rfl⟩:=sp A
   cases v:Nat.beq f.offset e
   .grind
   .rw[v]at c;simp only[pK]at c
    have w:=gB v
    split at c
    .rename_i K J u H
     simp only[VF]at c
     obtain⟨⟨y,C,L⟩,_⟩:=qS (n.Cm u)
     have E:y=.int .i64:=by grind [BD]
     subst E
     have F:X[f.offset]? =some (.int .i64 a):=by have:=p 0 (.i a) O;rw[w];exact this
     have G:Y[f.offset]? =some (.int .i64 b):=by have:=q 0 (.i b) O;rw[w];exact this
     have M:=I (e+1) _ i r J O (λB D=>t B (aX _ D)) (λk d B=>by have:=p (k+1) d cB;rw[<-this];congr 1;omega) (λk d B=>by have:=q (k+1) d cB;rw[<-this];congr 1;omega) H
     rw[List.forIn_cons,ez,bn (t f cK)]
     simp only[ez,U1 n u F,U1 n u G,dt,UA C]
     grind [Bool.not_true,Bool.false_eq_true,Go.Sem.run_pure,Go.Result.andThen_ok]
    .simp at c
  .simp at c
def Td(j:yJ g T){a:Array Field}(p:g.underlying c=some (.struct a))(o:g.stoodInHeld c=false)(n:∀f∈a.toList,f.name≠ "_"){r:ae}{b:Bool}
 (l:eqC T 0 (a.toList.map λf=>(f.offset,f.type)) i r=some b)(w:World):(Op.equal c (.agg (i.map Ce.v).toArray) (.agg (r.map Ce.v).toArray)).run g w=.ok b w:=by
 have:Op.equal c (.agg (i.map Ce.v).toArray) (.agg (r.map Ce.v).toArray)=Op.equalIn (9998+1+1) c (.agg (i.map Ce.v).toArray) (.agg (r.map Ce.v).toArray):=rfl
 rw[this]
 generalize 9998=z
 rw[Op.equalIn]
 simp only[ez,run_underlying p,dt]
 have m:=ZD j (z:=z) (X:=(i.map Ce.v).toArray) (Y:=(r.map Ce.v).toArray) w a.toList 0 _ i r b O n (λk h e=>by simp[e]) (λk h e=>by simp[e]) l
 have e:(program:Sem Program).run g w=.ok g w:=rfl
 rw[e,dt,aW (by simp[o]),ez,<-Array.forIn_toList,m]
 cases b<;>rfl
def Yo(h:aaI g c=true):∃a,g.underlying c=some (.struct a)/\(∀f∈a.toList,f.name≠ "_")/\g.stoodInHeld c=false/\g.eqGuardType g.depth c=false:=by
 grind [aaI,List.all_eq_true,Bool.not_eq_true']
def Ux(h:g.eqGuardType g.depth c=false)(e f:Operand)(a b:Array Value)(w:World):(eqGuard .eql c e f (.agg a) (.agg b)).run g w=.ok () w:=by
 have d:(program:Sem Program).run g w=.ok g w:=rfl;simp only[eqGuard];simp[d,h]
def Rn(a:BinOp)(c:TypeId)(b d:Operand)(s:E)(y:Value)(w:World):(eqGuard a c b d s.v y).run g w=.ok () w:=by
 cases s<;>cases a<;>simp[eqGuard,E.v]
def UJ(A:yJ g T)(f:mD n h a){C:BinOp}{I:TypeId}(b:rd T h j k (.binOp C c x y I)):sU g T h j a ⟨q,.binOp C c x y I,v,u,p,r⟩ k:=by
 simp only[rd]at b;split at b
 .rename_i Q d l m;obtain⟨w,F,B,s,E⟩:=aaF (g:=g) (c:=c) b;refine⟨w,F,B,s,λD _=>?_⟩;simp only[execOp,f.eq l O,f.eq m O,SV.v,Ce.v,ez];simp[Uy,E]
 .rename_i w l m;split at b
  .rename_i e K J B;have s:=(nl (A.Cm B)).1;have G:a.eval x=w.v:=f.eq l O;have H:a.eval y=.slice none 0 0:=f.eq m O;cases C<;>simp only[aaU]at b
   all_goals
    first
    |exact b.elim
    |exact⟨_,_,b,rj,λD _=>by
     have E:∀o:BinOp,o=.eql\/o=.neq->binOp o c w.v (.slice none 0 0)=(if o=.eql then(do pure (.bool (<-Op.equal c w.v (.slice none 0 0))))else(do pure (.bool (!(<-Op.equal c w.v (.slice none 0 0)))))):=by
      intro o F;rcases F with rfl|rfl<;>cases w<;>rfl
     simp only[execOp,G,H,ez,Rn,dt];rw[E _ bO];simp[NU s,SV.v,Ce.v]⟩
  .exact b.elim
 .rename_i d l m;split at b
  .rename_i J B;obtain⟨⟨z,hd,M⟩,_⟩:=qS (A.Cm B);have s:∃e,g.underlying c=some (.pointer e):=by cases z<;>simp_all [BD]
   obtain⟨e,s⟩:=s;have G:a.eval x=.pointer (d.map λd=>⟨d.1,d.2,none⟩):=f.eq l O;have H:a.eval y=.pointer none:=f.eq m O;cases C<;>simp only[aaV]at b
   all_goals
    first
    |exact b.elim
    |exact⟨_,_,b,rj,λD _=>by
     have E:∀o:BinOp,o=.eql\/o=.neq->binOp o c (.pointer (d.map λd=>(⟨d.1,d.2,none⟩:Addr))) (.pointer none)=(if o=.eql then(do pure (.bool (<-Op.equal c (.pointer (d.map λd=>(⟨d.1,d.2,none⟩:Addr))) (.pointer none))))else(do pure (.bool (!(<-Op.equal c (.pointer (d.map λd=>(⟨d.1,d.2,none⟩:Addr))) (.pointer none)))))):=by
      intro o F;rcases F with rfl|rfl<;>rfl
     simp only[execOp,G,H,ez,Uz,dt];rw[E _ bO];simp[Ro s,SV.v,Ce.v]⟩
  .exact b.elim
 .rename_i i R l m;split at b
  .unfold eqA at b;split at b
   .rename_i H B;split at b
    .rename_i V E;obtain⟨S,s,L,N,J⟩:=Yo (A.cmp H);obtain⟨⟨U,w,K⟩,_⟩:=qT (A.Cm B);rw[s]at w;obtain rfl:=(TypeDesc.struct.inj (sk w));rw[<-K]at E;refine⟨_,_,b,rj,λD _=>?_⟩;have F:a.eval x=.agg (i.map Ce.v).toArray:=f.eq l O;have G:a.eval y=.agg (R.map Ce.v).toArray:=f.eq m O;simp only[execOp,F,G,ez,Ux J,dt,binOp,Td A s N L E];rfl
    .exact b.elim
   .exact b.elim
  .exact b.elim
 .split at b
  .rename_i Q d w l m;obtain⟨⟨z,hd,M⟩,_⟩:=qS (A.Cm w);have s:z=.bool:=by
    cases z<;>simp_all [BD]
   subst s;cases C<;>simp only[aaE]at b
   all_goals
    first
    |exact b.elim
    |exact⟨_,_,b,rj,λD _=>by
     simp only[execOp,f.evB l,f.evB m,ez,Tc,Result.andThen,binOp,We hd];rfl⟩
  .exact b.elim
def Rt(d:yJ g T)(i:mD n h a){s:TypeId}(b:rd T h j k (.convert s c x)):sU g T h j a ⟨q,.convert s c x,v,u,p,r⟩ k:=by
 simp only[rd]at b;split at b
 .rename_i B b1 b2 y A o t w;obtain⟨⟨z,hd,_⟩,_⟩:=qS (d.Cm o);obtain⟨⟨e,l,f⟩,_⟩:=qS (d.Cm t);have m:e=.int .i64:=by unfold BD at f;split at f<;>simp_all
  subst m;exact⟨_,_,b,rj,λC _=>by
   simp only[execOp,i.eq w O,SV.v,Ce.v,ez];simp[convert,run_underlying hd,run_underlying l,Conv.intToInt,eJ]⟩
 .exact b.elim
def Wp(d:mD n h a){f:UnOp}(b:rd T h j k (.unOp f c x)):sU g T h j a ⟨q,.unOp f c x,v,u,p,r⟩ k:=by
 simp only[rd]at b;generalize e:ev h x=sx at b;unfold unO at b;split at b
 .exact⟨_,_,b,rj,λw _=>by simp[execOp,d.eq e O,SV.v,Op.unary]⟩
 .exact⟨_,_,b,rj,λw _=>by simp[execOp,d.eq e O,SV.v,Op.unary]⟩
 .exact⟨_,_,b,rj,λw _=>by simp[execOp,d.eq e O,SV.v,Ce.v,Op.unary]⟩
 .exact⟨_,_,b,rj,λw _=>by simp[execOp,d.eq e O,SV.v,Ce.v,Op.unary,Op.intArith,eJ]⟩
 .exact b.elim
def HR(m:yJ g T){mk:Nat->SV}(D:∀o,(mk o).v=.pointer (some ⟨b,o,none⟩))(I:a.eval x=.pointer (some ⟨b,o,none⟩))(d:Kc T c f o mk k):
 sU g T h j a ⟨q,.fieldAddr c x f,v,u,p,r⟩ k:=by
 unfold Kc at d
 split at d
 .rename_i L M J G
  split at d
  .rename_i K N s
   split at d
   .rename_i l H
    cases i:(l.yS||Nat.beq l.sh.length 0)
    .rw[i]at d
     simp only[cV]at i
     obtain⟨⟨y,B,C⟩,_⟩:=qT (m.Cm G)
     rw[tR,<-C,eE]at s
     obtain⟨t,z,n⟩:=jT.1 s
     simp only[SI]at n
     obtain⟨rfl,rfl⟩:=n
     have F:=λw=>np m H i.1 w
     have E:l.sh.length≠0:=λe=>by rw[e]at i;simp at i
     refine⟨_,_,d,rj,λw _=>?_⟩
     have A:y[f]? =some t:=sp z
     rw[D]
     simp[execOp,Instr.fieldAt,I,run_underlying B,A,Instr.sureAddr,fieldPlace,F,E,zU]
    .rw[i]at d;exact d.elim
   .exact d.elim
  .exact d.elim
 .exact d.elim
def NV(l:yJ g T)(i:mD n h a)(d:rd T h j k (.fieldAddr c x f)):sU g T h j a ⟨q,.fieldAddr c x f,v,u,p,r⟩ k:=by
 simp only[rd]at d;split at d
 .rename_i b o e;exact HR l (λo=>O) (i.eq e O) d
 .rename_i m b o e;exact HR l (λo=>O) (i.eq e O) d
 .exact d.elim
def UL(l:yJ g T)(m:mD n h a)(b:rd T h j k (.field c x f)):sU g T h j a ⟨q,.field c x f,v,u,p,r⟩ k:=by
 simp only[rd]at b;split at b
 .rename_i i C;unfold Te at b;split at b
  .rename_i N P L K;split at b
   .rename_i M Q A;split at b
    .rename_i E B;cases d:E.yS
     .rw[d]at b;obtain⟨⟨G,z,I⟩,_⟩:=qT (l.Cm K);rw[tR,<-I,eE]at A;obtain⟨F,H,s⟩:=jT.1 A;simp only[SI]at s;obtain⟨rfl,rfl⟩:=s;have J:=λw=>np l B d w;have o:=λw=>Mt l B d w;have t:G[f]? =some F:=sp H;cases e:E.agg
      .simp only[e,zQ]at b;split at b
       .rename_i y D;refine⟨_,_,b,rj,λw _=>?_⟩;rw[tR]at D;simp[execOp,Instr.field,m.eq C O,SV.v,run_underlying z,t,asAgg,part,o,e,D]
       .exact b.elim
      .simp only[e,zQ,pK]at b;refine⟨_,_,b,rj,λw _=>?_⟩;simp[execOp,Instr.field,m.eq C O,SV.v,run_underlying z,t,asAgg,part,o,e,J,List.map_drop,List.map_take]
     .rw[d]at b;exact b.elim
    .exact b.elim
   .exact b.elim
  .exact b.elim
 .exact b.elim
def NW(m:yJ g T)(l:mD n h a)(d:rd T h j k (.indexAddr c x y)):sU g T h j a ⟨q,.indexAddr c x y,v,u,p,r⟩ k:=by
 simp only[rd]at d;split at d
 .rename_i G K D F;unfold ac9 at d;split at d
  .rename_i e M I B;split at d
   .rename_i H z;cases i:H.yS
    .rw[i]at d;obtain⟨s,f,t⟩:=d;have C:=(nl (m.Cm B)).1;have A:=λw=>np m z i w;cases G with
     |nil=>simp[E.len]at f;omega
     |DK _ _ _=>simp[E.len]at f;omega
     |mk b o L J=>
      refine⟨_,_,t,rj,λw _=>?_⟩;simp only[E.len]at f;simp[execOp,Instr.indexAt,l.eq D O,l.eq F O,SV.v,Ce.v,E.v,asIntOf,run_underlying C,s,f,A,zU,E.bz,E.off]
    .rw[i]at d;exact d.elim
   .exact d.elim
  .exact d.elim
 .exact d.elim
def UT:∀(d:aA)(b o c:Nat)(k:ae->Prop),ldC j b o c d k->∃i,k i/\i.length=d.length/\∀a,a<d.length->aS j b (o+c+a)=(i[a]?).map Ce.v
 |[],_,_,_,_,h=>⟨[],h,O,λa e=>by simp at e⟩
 |s::r,b,o,c,k,h=>by
  obtain⟨x,m,h⟩:=h;obtain⟨i,f,g,l⟩:=UT r b o (c+1) _ h;refine⟨s.mk x::i,f,by simp[g],λa e=>?_⟩;grind
def qJ(A:yJ g T)(H:a.eval x=.pointer (some ⟨b,o,none⟩)){e:TI}(G:jx T c=some e)(F:e.yS=false)
 (J:∀d,d<e.sh.length->(b,o+d)∈YX T h (.load c x))(D:i.length=e.sh.length)(K:∀y,y<e.sh.length->aS j b (o+y)=(i[y]?).map Ce.v)
 {s:SV}(N:(e.agg=true/\s.v=.agg (i.map Ce.v).toArray)\/(e.agg=false/\∃m,i=[m]/\s.v=m.v))(M:k s):
 sU g T h j a ⟨q,.load c x,v,u,p,r⟩ k:=by
 refine⟨s,s.v,M,rj,λl Q=>?_⟩
 have O:=np A G F l
 have B:=Mt A G F l
 have C:∀d,d<e.sh.length->aS l.heap b (o+d)=(i[d]?).map Ce.v:=λd f=>by rw[Q (b,o+d) (J d f),K d f]
 rcases N with⟨n,t⟩|⟨n,m,t,I⟩
 .have E:=run_loadCells_list (P:=g) (w:=l) ⟨b,o,none⟩ (i.map Ce.v) (λd R f=>by
   rw[zU,Eb];have L:d<e.sh.length:=by
    rcases dJ d e.sh.length with z|z
    .exact z
    .rw[jE eX]at f;simp at f
   rw[C d L,<-eE,f])
  simp only[jX]at E
  simp only[execOp,Instr.loadAt,H,Instr.sureAddr,loadVar,ez,iK,B,n,dt,O,yi]
  simp[<-D,E,t]
 .subst t
  have z:=C 0 (by rw[<-D];simp)
  simp at z
  simp only[execOp,Instr.loadAt,H,Instr.sureAddr,loadVar,ez,iK,B,n,dt]
  simp[Eb,z,I]
def Nw(C:yJ g T)(H:mD n h a)(D:a.eval x=.pointer (some ⟨b,o,none⟩))
 (B:∀d f,jx T c=some d->f<d.sh.length->(b,o+f)∈YX T h (.load c x))(m:UW T j c b o k):sU g T h j a ⟨q,.load c x,v,u,p,r⟩ k:=by
 unfold UW at m
 split at m
 .rename_i I J F d
  obtain⟨i,z,G,E⟩:=UT _ _ _ _ _ m
  exact qJ C D d O (λf w=>B _ f d w) G (λA t=>by simpa using E A t) (s:=.agg i) (bC ⟨O,O⟩) z
 .rename_i G F d
  obtain⟨y,E,z⟩:=m
  exact qJ C D d O (λf w=>B _ f d w) (i:=[G.mk y]) O (λA t=>by
   have:A=0:=sp t;subst this;exact E) (s:=.c (G.mk y)) (bR ⟨O,_,O,O⟩) z
 .rename_i e G F d
  obtain⟨y,E,z⟩:=m
  exact qJ C D d O (λf w=>B _ f d w) (i:=[.s y]) O (λA t=>by
   have:A=0:=sp t;subst this;exact E) (s:=.c (.s y)) (bR ⟨O,_,O,O⟩) z
 .exact m.elim
def Q2:∀{a:ae}{b o:Nat}{i:ae},Ly a o b=some i->i.length=b/\∀c,c<b->a[o+c]? =i[c]?
 |a,0,o,i,h=>by simp[Ly]at h;subst h;simp
 |a,b+1,o,i,h=>by
  simp only[Ly]at h;split at h
  .rename_i e r j d;simp at h;subst h;obtain⟨f,g⟩:=Q2 d;constructor<;>grind [tR]
  .simp at h
def Nv(C:yJ g T)(K:mD n h a){e:Nat}{G:ae}(E:a.eval x=.pointer (some ⟨b,o,none⟩))
 (B:∀d t,jx T c=some d->t<d.sh.length->(b,o+t)∈YX T h (.load c x))(H:j[b]? =some (.cells (G.map Ce.v).toArray e))(d:Sb T c G o k):
 sU g T h j a ⟨q,.load c x,v,u,p,r⟩ k:=by
 have D:∀m,aS j b m=(G[m]?).map Ce.v:=λm=>by simp[aS,H]
 unfold Sb at d
 split at d
 .rename_i J L F f
  split at d
  .rename_i i I
   obtain⟨w,y⟩:=Q2 I
   exact qJ C E f O (λt A=>B _ t f A) w (λm z=>by rw[D,y m z]) (s:=.agg i) (bC ⟨O,O⟩) d
  .exact d.elim
 .rename_i I F f
  split at d
  .rename_i w y
   rw[tR]at y
   exact qJ C E f O (λt A=>B _ t f A) (i:=[w]) O (λm z=>by
    have:m=0:=sp z;subst this;rw[D];simp[y]) (s:=.c w) (bR ⟨O,_,O,O⟩) d
  .exact d.elim
 .rename_i e I F f
  split at d
  .rename_i w y
   rw[tR]at y
   exact qJ C E f O (λt A=>B _ t f A) (i:=[w]) O (λm z=>by
    have:m=0:=sp z;subst this;rw[D];simp[y]) (s:=.c w) (bR ⟨O,_,O,O⟩) d
  .exact d.elim
 .rename_i L J I F f
  split at d
  .rename_i w y
   rw[tR]at y
   exact qJ C E f O (λt A=>B _ t f A) (i:=[w]) O (λm z=>by
    have:m=0:=sp z;subst this;rw[D];simp[y]) (s:=.c w) (bR ⟨O,_,O,O⟩) d
  .exact d.elim
 .exact d.elim
def Wn(m:yJ g T)(f:mD n h a)(B:Bx n h j)(d:rd T h j k (.load c x)):sU g T h j a ⟨q,.load c x,v,u,p,r⟩ k:=by
 simp only[rd]at d;split at d
 .rename_i b o i;exact Nw m f (f.eq i O) (λs l A z=>by simp only[YX,i,A];exact gK.2 ⟨l,qY.2 z,O⟩) d
 .rename_i C b o i;have w:∀s l,jx T c=some s->l<s.sh.length->(b,o+l)∈YX T h (.load c x):=λs l A z=>by simp only[YX,i,A];exact gK.2 ⟨l,qY.2 z,O⟩
  split at d
  .rename_i D e t y;obtain⟨rfl,d⟩:=d;exact Nv m f (f.eq i O) w (B.bz C _ e t (bC y)) d
  .rename_i D e t y;obtain⟨rfl,d⟩:=d;exact Nv m f (f.eq i O) w (B.bz C _ e t (bR y)) d
  .exact Nw m f (f.eq i O) w d
 .exact d.elim
end
section
variable{x:Operand}{t:TypeId}
variable{P:Program}{T:TT}
variable{n:Nat}{b:Fr}{a:Act}{m:bg}{k:SV->Prop}{d:Option Tmp}{g:TypeId}{f:String}{c:Array Edge}{e:Option (Nat×Bool)}
def Ru(l:mD n b a){j:Nat}(h:rd T b m k (.extract x j)):sU P T b m a ⟨d,.extract x j,g,f,c,e⟩ k:=by
 simp only[rd]at h;split at h
 .rename_i p o;split at h
  .rename_i y i;refine⟨_,_,h,rj,λw _=>?_⟩;rw[tR]at i;rw[AV.aft];have:a.eval x=.tuple (p.map AV.v).toArray:=l.eq o O;simp[execOp,Instr.extract,this,i]
  .exact h.elim
 .exact h.elim
def Sr(c:mD n b a){x:Option Operand}{d:Int}{k:Int->Prop}(h:Ry b x d k):
 (x=none/\k d)\/∃y i,x=some y/\a.eval y=.int .i64 i/\k i:=by
 unfold Ry at h
 split at h
 .exact bC ⟨O,h⟩
 .rename_i y
  split at h
  .rename_i i e
   exact bR ⟨y,i,O,c.eq e O,h⟩
  .exact h.elim
def tV{k:IntKind}{i:Int}{y:Nat}{c:BoundsCode}(a:0<=i)(b:i<=y)(w:World):(Instr.sliceBound (.int k i) y c).run P w=.ok i.toNat w:=by
 simp[Instr.sliceBound,asIntOf,a,b]
def adK(b o l c a d e:Nat):(E.cut (.mk b o l c) a d e).v=.slice (if c=a then some ⟨b,o,none⟩else(some (⟨b,o,none⟩:Addr)).map (·.add (a*e))) (d -a) (c -a):=by
 show Value.slice _ _ _=_;grind [zU]
def UM(K:yJ P T)(r:mD n b a){A y:Option Operand}(i:rd T b m k (.slice t x A y none)):sU P T b m a ⟨d,.slice t x A y none,g,f,c,e⟩ k:=by
 simp only[rd]at i;split at i
 .rename_i s H;unfold WU at i;split at i
  .rename_i v Q N M;split at i
   .rename_i B L;cases D:B.yS
    .rw[D]at i;have G:=(nl (K.Cm M)).1;have F:=λw=>np K L D w;have z:∀(l h:Int),0<=l->l<=h->h<=(s.cap:Int)->
      (∀w:World,(Instr.sliceBounds true s.len s.cap (A.map a.eval) (y.map a.eval) none).run P w=.ok (l.toNat,h.toNat,s.cap) w)->
      ∀w:World,(execOp a.eval ⟨d,.slice t x A y none,g,f,c,e⟩).run P w=.ok (.value (Ce.s (s.cut l.toNat h.toNat B.sh.length)).v) w:=by
      intro l h o p j q w
      cases s with
      |nil=>
       simp only[E.cap,E.len]at q j
       have:h=0:=V
       have:l=0:=V
       subst this;subst h
       simp[execOp,Instr.sliceAt,r.eq H O,SV.v,Ce.v,E.v,run_underlying G,Instr.slice,q,F,E.cut]
      |DK u C sp=>
       simp only[E.cap,E.len]at q j
       have:h=0:=V
       have:l=0:=V
       subst this;subst h
       simp[execOp,Instr.sliceAt,r.eq H O,SV.v,Ce.v,E.v,run_underlying G,Instr.slice,q,F,E.cut]
      |mk u J I C=>
       simp only[E.cap,E.len]at q
       have v:(Ce.s ((E.mk u J I C).cut l.toNat h.toNat B.sh.length)).v=_:=adK u J I C l.toNat h.toNat B.sh.length
       rw[v]
       have:a.eval x=.slice (some ⟨u,J,none⟩) I C:=r.eq H O
       simp[execOp,Instr.sliceAt,this,run_underlying G,Instr.slice,q,F]
     simp only[zQ]at i;rcases Sr r i with⟨rfl,C⟩|⟨R,l,rfl,I,C⟩<;>rcases Sr r C with⟨rfl,o,p,j,u⟩|⟨S,h,rfl,J,o,p,j,u⟩
     .exact⟨_,_,u,rj,λw _=>z _ _ o p j (λw=>by simp[Instr.sliceBounds]) w⟩
     .exact⟨_,_,u,rj,λw _=>z _ _ o p j (λw=>by simp[Instr.sliceBounds,J,tV (by omega:0<=h) j]) w⟩
     .exact⟨_,_,u,rj,λw _=>z _ _ o p j (λw=>by simp[Instr.sliceBounds,I,tV o p]) w⟩
     .exact⟨_,_,u,rj,λw _=>z _ _ o p j (λw=>by
       have v:l<=(h.toNat:Int):=V;simp[Instr.sliceBounds,J,I,tV (by omega:0<=h) j,tV o v]) w⟩
    .rw[D]at i;exact i.elim
   .exact i.elim
  .exact i.elim
 .exact i.elim
def PC(s:yJ P T)(o:mD n b a)(m:ao)(kD:Nat->Option (Nat×Nat))
 (q:∀i d t e,Mi m i=some (d,t)->jx T t=some e->e.yS=false->kD i=some (d,e.sh.length)):
 ∀(r:aG)(c:ae)(k:ae->Prop),J4 T b m c r k->
  ∃l,k l/\Instr.fill kD (c.map Ce.v).toArray (r.map λp=>(p.1,a.eval p.2))=some (l.map Ce.v).toArray
 |[],c,k,h=>⟨c,h,O⟩
 |(i,x)::F,c,k,h=>by
  simp only[J4]at h;split at h
  .rename_i d t f B A;split at h
   .rename_i e C;cases g:(!e.yS&&Nat.beq f.length e.sh.length&&Nat.ble (d+f.length) c.length)
    .grind
    .rw[g]at h;simp only[eZ,yg]at g;obtain⟨⟨u,j⟩,p⟩:=g;have j:=gB j;have p:=oU p;obtain⟨l,w,z⟩:=PC s o m kD q F (qO c d f) k h;refine⟨l,w,?_⟩;obtain⟨y,v⟩:=tD A;have D:a.eval x=(ev b x).v:=o.eq O y;simp only[eM,Instr.fill,q i d t e B C u,D,v,List.size_toArray,jX,j];rw[aW cB,<-z];congr 1;apply TZ;intro E;have G:=Sk (f.map Ce.v) 0 d (c.map Ce.v).toArray E;grind [Array.toList_zipIdx,Gj,List.map,Ce.v,qO,Option.map]
   .exact h.elim
  .exact h.elim
def szT(T:TT)(t:Nat):Nat:=match jx T t with|some a=>a.sh.length|none=>0
def ND(c:yJ P T)(w:World):∀(a:afD),(∀f∈a,∃b,jx T f.type=some b/\b.yS=false)->
 (a.mapM (λf=>do pure (f.offset,<-sizeOf f.type):Field->Sem (Nat×Nat))).run P w=.ok (a.map λf=>(f.offset,szT T f.type)) w
 |[],_=>bO
 |f::a,h=>by
  obtain⟨b,d,j⟩:=h f bO;have e:=ND c w a (λg i=>h g (by simp[i]));simp only[List.mapM_cons,ez,np c d j,dt,iK]at e⊢;rw[e];simp[szT,d]
def NF:∀{b:ao},zB T b=true->∀p∈b,∃c,jx T p.2=some c/\c.yS=false
 |[],_,_,h=>by simp at h
 |(o,t)::r,h,p,a=>by
  simp only[zB,eZ]at h;rcases bo.1 a with rfl|a
  .grind
  .exact NF h.2 p a
def UK(l:yJ P T)(z:mD n b a){o:Array (Nat×Operand)}(i:rd T b m k (.build t o)):sU P T b m a ⟨d,.build t o,g,f,c,e⟩ k:=by
 simp only[rd]at i;split at i
 .rename_i y K M v;cases q:zB T y
  .rw[q]at i;exact i.elim
  rw[q]at i;obtain⟨⟨j,D,s⟩,_⟩:=qT (l.Cm v);obtain⟨L,I,J,R⟩:=Aq l v O;have A:∀h∈j.toList,∃r,jx T h.type=some r/\r.yS=false:=λh B=>
   NF q (h.offset,h.type) (by rw[<-s];exact gK.2 ⟨h,B,O⟩)
  have G:∀w:World,(j.mapM (λh=>do pure (h.offset,<-sizeOf h.type):Field->Sem (Nat×Nat))).run P w=.ok (j.toList.map λh=>(h.offset,szT T h.type)).toArray w:=by
   intro w;rw[aau,Sem.run_map,ND l w j.toList A];rfl
  obtain⟨S,E,F⟩:=PC l z y (λx=>((j.toList.map λh=>(h.offset,szT T h.type)).toArray)[x]?) (λx U t r u H Q=>by
   rw[tR,<-s,eE]at u;obtain⟨N,C,p⟩:=jT.1 u;simp only[SI]at p;obtain⟨rfl,rfl⟩:=p;simp only[sQ,eE,C,vy,szT,H]) _ _ _ i
  refine⟨_,_,E,rj,λw _=>?_⟩;have u:L.cells=((K.map Sh.zero).map Ce.v).toArray:=by
   apply ng.1;simp[I]
  have C:(o.map λp=>(p.1,a.eval p.2)).toList=o.toList.map λp=>(p.1,a.eval p.2):=bO;simp only[execOp,Instr.build,ez,J,dt,run_underlying D,G,u,C,F];simp[SV.v]
 .exact i.elim
def Gg(d:mD n b a):∀{c:aD},c.all (λx=>(ev b x).mT)=true->c.map a.eval=c.map λx=>(ev b x).v
 |[],_=>O
 |x::c,h=>by
  simp only[SH,eZ]at h;simp only[eM,d.eq O h.1,Gg d h.2]
def Rr(v:yJ P T)(l:mD n b a){s:Builtin}{i:Array Operand}{r:Array TypeId}(h:rd T b m k (.call ⟨.builtin s,i,r⟩)):
 sU P T b m a ⟨d,.call ⟨.builtin s,i,r⟩,g,f,c,e⟩ k:=by
 simp only[rd]at h
 unfold Zl at h
 split at h
 .rename_i t x z p
  split at h
  .rename_i D F C q y o
   refine⟨_,_,h,rj,λw _=>?_⟩
   have A:=(nl (v.Cm y)).1
   have u:r=#[t]:=ng.1 (sp z)
   have j:i=#[x]:=ng.1 (sp p)
   subst u;subst j
   have B:a.eval x=q.v:=l.eq o O
   cases q<;>simp[execOp,resolve,invoke,builtin,Builtin.len_,run_underlying A,B,E.v,goInt,SV.v,Ce.v,E.len]
  .exact h.elim
 .rename_i x y p
  split at h
  .rename_i u z o q
   refine⟨_,_,h,rj,λw _=>?_⟩
   have j:i=#[x,y]:=ng.1 (sp p)
   subst j
   simp[execOp,resolve,invoke,builtin,Builtin.max_,Builtin.max2,l.eq o O,l.eq q O,SV.v,Ce.v]
  .exact h.elim
 .rename_i x y p
  split at h
  .rename_i u z o q
   refine⟨_,_,h,rj,λw _=>?_⟩
   have j:i=#[x,y]:=ng.1 (sp p)
   subst j
   simp[execOp,resolve,invoke,builtin,Builtin.min_,Builtin.min2,l.eq o O,l.eq q O,SV.v,Ce.v]
  .exact h.elim
 .exact h.elim
def Qt(j:yJ P T)(i:mD n b a)(s:Bx n b m)(o:Oper)(h:rd T b m k o.op):sU P T b m a o k:=by
 obtain⟨d,l,g,f,c,e⟩:=o;cases l with
 |move x=>exact ZI i h
 |assign x=>exact Yw i h
 |pick p x y=>exact Wo i h
 |nilCheck x=>exact PU i h
 |binOp l t x y q=>exact UJ j i h
 |unOp l t x=>exact Wp i h
 |convert q t x=>exact Rt j i h
 |fieldAddr t x q=>exact NV j i h
 |field t x q=>exact UL j i h
 |indexAddr t x y=>exact NW j i h
 |load t x=>exact Wn j i s h
 |extract x r=>exact Ru i h
 |slice t x u r mx=>cases mx with
  |none=>exact UM j i h
  |some y=>exact h.elim
 |build t r=>exact UK j i h
 |call p=>
  obtain⟨r,u,w⟩:=p;cases r with
  |builtin v=>exact Rr j i h
  |value q=>exact h.elim
  |invoke v q=>exact h.elim
 |_=>exact h.elim
end
section
variable{v:Value}{m m':bg}{b o e n q:Nat}{l:ae}{x:SV}
def aV(m:bg)(b o:Nat):ae->bg
 |[]=>m
 |c::r=>aV (vg m b o c.v) b (o+1) r
def jb(m:bg)(b o n:Nat):Prop:=∀j,j<n->(aS m b (o+j)).isSome=true/\CO m b (o+j)=false
def jG(m:bg)(b o:Nat)(l:ae):Prop:=∀(i:Nat)(c:Ce),l[i]? =some c->aS m b (o+i)=some c.v
def na(a:ae)(n:Nat):ae:=(List.replicate n a).flatten
def db(l:ae):Array Value:=(l.map Ce.v).toArray
def WO(m:bg)(b o:Nat)(v:Value):(vg m b o v).size=m.size:=by simp[vg]
theorem QD(m:bg)(b o:Nat){j:Nat}(h:j≠b):(vg m b o v)[j]? =m[j]? :=by
 grind [vg]
theorem bD:∀(l:ae)(m:bg)(b o:Nat),(aV m b o l).size=m.size
 |[],_,_,_=>O
 |c::r,m,b,o=>by simp only[aV];rw[bD r,WO]
theorem cq:∀(l:ae)(m:bg)(b o:Nat){j:Nat},j≠b->(aV m b o l)[j]? =m[j]?
 |[],_,_,_,_,_=>O
 |c::r,m,b,o,j,h=>by simp only[aV];rw[cq r _ _ _ h,QD m b o h]
theorem rV(h:aS m b o=some v):b<m.size:=by
 grind [Nat.lt_or_ge,Array.size,aS,Array.getElem?_eq_none]
theorem bE(h:m'[b]? =m[b]?)(o:Nat):aS m' b o=aS m b o:=by simp only[aS,h]
def dF(m:bg)(b:Nat)(e:Nat)(l:ae):Prop:=m[b]? =some (.cells (db l) e)
theorem aak(l:ae)(i:Nat):(db l)[i]? =(l[i]?).map Ce.v:=by simp[db]
def dF.dx(h:dF m b e l)(o:Nat):aS m b o=(l[o]?).map Ce.v:=by
 have a:m[b]? =some (.cells (db l) e (0,0)):=h;grind [aS,aak]
def dF.kZ(h:dF m b e l):jG m b 0 l:=λi c a=>by rw[h.dx,eW,a];rfl
theorem dF.lt(h:dF m b e l):b<m.size:=(gV.1 h).1
theorem dF.CO{m:bg}{b e:Nat}{l:ae}(h:dF m b e l){o:Nat}:CO m b o=false:=by
 have a:m[b]? =some (.cells (db l) e (0,0)):=h;simp[Vc.CO,a]
theorem dF.jb(h:dF m b e l)(c:o+n<=l.length):jb m b o n:=λj a=>by
 refine⟨?_,h.CO⟩;rw[h.dx];simp;omega
theorem dF.push(m:bg)(l:ae)(e:Nat):dF (m.push (.cells (db l) e)) m.size e l:=by simp[dF]
theorem dF.congr(a:dF m b e l)(h:m'[b]? =m[b]?):dF m' b e l:=by
 grind [dF]
theorem dF.vg{m:bg}{b e:Nat}{l:ae}(h:dF m b e l)(o:Nat)(c:Ce):dF (vg m b o c.v) b e (l.set o c):=by
 have a:m[b]? =some (.cells (db l) e (0,0)):=h;have d:=h.lt;simp only[dF,Vc.vg,Array.getElem?_modify,yi,a,vy];congr 2;grind [db,List.size_toArray,List.length_map,List.length]
def kJ(l:ae)(o:Nat):ae->ae
 |[]=>l
 |c::r=>kJ (l.set o c) (o+1) r
def nU:∀(r l:ae)(o:Nat),(kJ l o r).length=l.length
 |[],_,_=>O
 |c::r,l,o=>by simp only[kJ];rw[nU r];simp
theorem KO:∀(r l:ae)(o i:Nat),(kJ l o r)[i]? =if o<=i/\i<o+r.length/\i<l.length then r[i -o]? else l[i]?
 |[],l,o,i=>by simp[kJ];intro h;omega
 |c::r,l,o,i=>by
  simp only[kJ];rw[KO r,Il];grind [List.length_set,List.length_cons,List.length,List.getElem?_cons_succ]
def dF.aV{m:bg}{b e:Nat}:∀{r l:ae}{m:bg}{o:Nat},dF m b e l->dF (aV m b o r) b e (kJ l o r)
 |[],_,_,_,h=>h
 |c::r,l,m,o,h=>by
  simp only[Vc.aV,kJ];exact dF.aV (m:=m) (h.vg o c)
def By(t:Nat):ad->Bool
 |[]=>false
 |u::r=>Nat.beq u t||By t r
theorem Me{t:Nat}:∀{M:ad},By t M=true->t∈M
 |[],h=>by simp[By]at h
 |u::r,h=>by
  simp only[By,eH]at h;rcases h with h|h
  .grind [Nat.eq_of_beq_eq_true,List.mem_cons_self]
  .exact aX _ (Me h)
def Re(n:Nat):Fr->ad->ad
 |[],_=>[]
 |(q,x)::r,a=>bif Nat.ble n q&&!By q a then
  match x with
  | .box b _ _=>b::Re n r (q::a)
  | .DZ b _ _=>b::Re n r (q::a)
  |_=>Re n r (q::a)
  else Re n r a
def gS(l:ad)(m m':bg):Prop:=∀b∈l,m'[b]? =m[b]?
def EK(l:ad)(m m':bg)(k:Prop):Prop:=
 match l with
 |[]=>k
 |_=>gS l m m'/\k
def pS{l:ad}{k:Prop}(h:EK l m m' k):gS l m m'/\k:=by
 unfold EK at h;split at h
 .exact⟨(λb a=>by cases a),h⟩
 .exact h
def LA{n:Nat}{q b e:Nat}{l:ae}(d:n<=q):∀{g:Fr}{a:ad},q∉a->oX g q b e l->b∈Re n g a
 |[],a,_,h=>by rcases h with h|h<;>simp[kM]at h
 |(u,x)::r,a,i,h=>by
  simp only[Re];cases j:Nat.beq u q
  .have k:u≠q:=λe=>by subst e;simp at j
   have c:oX r q b e l:=by
    grind [oX,kM]
   have f:q∉u::a:=by
    grind
   cases(Nat.ble n u&&!By u a)
   .exact LA d i c
   .simp only[pK];split
    .exact aX _ (LA d f c)
    .exact aX _ (LA d f c)
    .exact LA d f c
  .grind [Nat.eq_of_beq_eq_true,By,Me,Nat.ble,Nat.ble_eq_true_of_le,Bool.not_false,Bool.and_self,oX,kM,List.mem_cons_self]
theorem Bx.jO{a:Fr}(h:Bx n a m)(r:∀b e l,x≠.box b e l/\x≠.DZ b e l):Bx n ((q,x)::a) m:=by
 have c:∀{u b e l},oX ((q,x)::a) u b e l->oX a u b e l:=by
  grind [oX,kM,Nat.beq]
 exact⟨λq b e l d=>h.bz q b e l (c d),λq p b e l f g o k i j=>h.V9 q p b e l f g o k (c i) (c j),λq b e l d=>h.NA q b e l (c d)⟩
def SV.ad6(x:SV)(b e:Nat)(l:ae):x.nb≠.box b e l/\x.nb≠.DZ b e l:=by
 cases x<;>exact⟨by simp[SV.nb],by simp[SV.nb]⟩
def Bx.cG{a:Fr}(h:Bx n a m){d:Option Nat}:Bx n (yr a d x) m:=by
 cases d with
 |none=>exact h
 |some d=>exact h.jO (SV.ad6 x)
def Bx.eV{a:Fr}(h:Bx n a m)(d:gS (Re n a []) m m'):Bx n a m':=
 ⟨λq b e l c=>by rw[d b (LA (h.NA q b e l c) bO c)];exact h.bz q b e l c,h.V9,h.NA⟩
def Bx.push{a:Fr}(h:Bx n a m)(o:Obj):Bx n a (m.push o):=
 ⟨λq b e l d=>by
  have c:=h.bz q b e l d;have f:=(gV.1 c).1;rw[uH,aW V];exact c,h.V9,h.NA⟩
def Bx.bF{c:Fr}(h:Bx n c m)(i:n<=q)(t:Nat)(l:ae):Bx n ((q,.box m.size t l)::c) (m.push (.cells (db l) t)):=by
 have g:=h.push (.cells (db l) t);have k:∀{u b e l},oX c u b e l->b<m.size:=λa=>(gV.1 (h.bz _ _ _ _ a)).1;have j:∀{u b e d},oX ((q,.box m.size t l)::c) u b e d->(u=q/\b=m.size/\e=t/\d=l)\/(u≠q/\oX c u b e d):=by
  intro u b e d a;unfold oX at a⊢;simp only[kM]at a;cases f:Nat.beq q u
  .rw[f]at a;exact bR ⟨λe=>by subst e;simp at f,a⟩
  .grind [Nat.eq_of_beq_eq_true]
 constructor<;>grind [db,Bx.bz,Bx.V9,Bx.NA]
def Bx.oH{g:Fr}(j:Bx n g m){c:ae}(r:kM g q=.box b e c)(o:Nat)(l:ae):Bx n ((q,.box b e (kJ c o l))::g) (aV m b o l):=by
 have p:oX g q b e c:=bC r;have k:dF m b e c:=j.bz q b e c p;have s:∀{u d f h},oX ((q,.box b e (kJ c o l))::g) u d f h->(u=q/\d=b/\f=e/\h=kJ c o l)\/(u≠q/\oX g u d f h):=by
  intro u d f h a;unfold oX at a⊢;simp only[kM]at a;cases i:Nat.beq q u
  .rw[i]at a;exact bR ⟨λe=>by subst e;simp at i,a⟩
  .grind [Nat.eq_of_beq_eq_true]
 refine⟨λu d f h a=>?_,λu B b1 t z b2 v A y w x=>?_,λu d f h a=>?_⟩
 .rcases s a with⟨rfl,rfl,rfl,rfl⟩|⟨i,a⟩
  .exact dF.aV (m:=m) k
  grind [cq,Bx.V9,Bx.bz]
 .grind [Bx.V9]
 .grind [Bx.NA]
def J9(a:Fr):ae->Option Fr
 |[]=>some a
 | .bp q _ _::r=>match kM a q with
  | .DZ _ _ _=>none
  |_=>J9 ((q,.jO)::a) r
 |_::r=>J9 a r
def AV.ces:AV->ae
 | .c x=>[x]
 | .agg l=>l
def SV.ces:SV->ae
 | .c x=>[x]
 | .agg l=>l
 | .tup l=>l.flatMap AV.ces
 |_=>[]
def ZE(a:Fr)(l:aB):Option Fr:=J9 a (l.flatMap SV.ces)
def uw{n:Nat}{f:Act}{m:bg}:∀{l:ae}{a c:Fr},J9 a l=some c->mD n a f->Bx n a m->mD n c f/\Bx n c m
 |[],a,c,h,e,d=>by simp[J9]at h;subst h;exact⟨e,d⟩
 |g::r,a,c,h,e,d=>by
  cases g with
  |bp q b o=>
   simp only[J9]at h;split at h
   .simp at h
   .exact uw h (e.jO q) (d.jO bO)
  |_=>exact uw (l:=r) (by simpa[J9]using h) e d
end
section
variable{P:Program}{T:TT}
def Ts(m:bg)(k:bg->Prop):Prop:=k m
def mj(m:bg)(f:Nat)(b:ae)(e:Nat)(s x:E)(k:E->bg->Prop):Prop:=
 ∃a:ae,a.length=x.len*b.length/\jG m x.bz x.off a/\
  (s.len+x.len<=s.cap->jb m s.bz (s.off+s.len*b.length) a.length/\
   k (match s with| .nil=>.nil| .mk d o l c=>.mk d o (l+x.len) c| .DK d o sp=>.DK d o sp) (aV m s.bz (s.off+s.len*b.length) a))/\
  (s.cap<s.len+x.len->(s.len+x.len)*e<=140737488355328/\∃old:ae,old.length=s.len*b.length/\jG m s.bz s.off old/\
   ∀c,s.len+x.len<=c->k (.mk m.size 0 (s.len+x.len) c) (m.push (.cells (db (old++a++na b (c -(s.len+x.len)))) f)))
def ac0(m:bg)(c:Nat)(s x:E)(k:SV->bg->Prop):Prop:=
 ∃a:ae,a.length=Nat.min x.len s.len*c/\jG m x.bz x.off a/\jb m s.bz s.off a.length/\
  Ts (aV m s.bz s.off a) λb=>k (.c (.i (Nat.min x.len s.len:Nat))) b
def exC:aA->(ae->Prop)->Prop
 |[],k=>k []
 |s::r,k=>∃x:s.ty,exC r λl=>k (s.mk x::l)
def Yu(T:TT):ad->(aH->Prop)->Prop
 |[],k=>k []
 |t::r,k=>match jx T t with
  |some ⟨.struct _,b,_⟩=>exC b λl=>Yu T r λa=>k (.agg l::a)
  |some ⟨.cell,[s],_⟩=>∃x:s.ty,Yu T r λa=>k (.c (s.mk x)::a)
  |some ⟨.slice _,[_],_⟩=>∃x:E,Yu T r λa=>k (.c (.s x)::a)
  |_=>False
def U8(T:TT)(t:Nat)(v:Value)(k:SV->Prop):Prop:=
 match jx T t with
 |some ⟨.tuple [],_,_⟩=>k .jO
 |some ⟨.tuple a,_,_⟩=>Yu T a λl=>v=.tuple (l.map AV.v).toArray/\k (.tup l)
 |some ⟨.struct _,a,_⟩=>exC a λl=>v=.agg (l.map Ce.v).toArray/\k (.agg l)
 |some ⟨.cell,[s],_⟩=>∃x:s.ty,v=(s.mk x).v/\k (.c (s.mk x))
 |some ⟨.slice _,[_],_⟩=>∃x:E,v=x.v/\k (.c (.s x))
 |_=>False
def Zo(P:Program)(T:TT)(G:ad)(n:Nat)(a:Fr)(m:bg)(e:Nat)(h:Operand)(b:aD)(k:Fr->SV->bg->Prop):Prop:=
 match ZE a (b.map (ev a))with
 |none=>False
 |some d=>match ev a h with
  | .c (.fn (.func g) first f)=>bif G.elem g&&b.all (λx=>(ev a x).mT)then
   bK P g (first.toList++(b.map λx=>(ev a x).v)++f.toList) m λv c=>EK (Re n d []) m c (U8 T e v λx=>k d x c)
   else False
  | .c (.fv q)=>bif b.all (λx=>(ev a x).mT)then
   ∃g,q.1=.func g/\G.elem g=true/\bK P g (q.2.1.toList++(b.map λx=>(ev a x).v)++q.2.2.toList) m λv c=>EK (Re n d []) m c (U8 T e v λx=>k d x c)
   else False
  |_=>False
def H9(m:bg)(b:Nat)(l:aC):Prop:=
 ∃a c,m[b]? =some (.map a c)/\a.toList.map (λe=>(e.key,e.val))=l.map λp=>(Value.int .i64 p.1,Value.int .i64 p.2)
def zA(l:aC)(k:Int):Int:=
 match l with
 |[]=>0
 |(j,v)::r=>if k=j then v else zA r k
def Oh(l:aC)(k v:Int):aC:=
 match l with
 |[]=>[(k,v)]
 |(j,u)::r=>if k=j then(j,v)::r else(j,u)::Oh r k v
def BA(T:TT)(d:Fr)(b:Nat):ae->aG->(ae->Prop)->Prop
 |a,[],k=>k a
 |a,(i,x)::r,k=>
  match(ev d x).cells with
  |some c=>bif Nat.beq c.length b&&Nat.ble (i*b+c.length) a.length then BA T d b (qO a (i*b) c) r k else False
  |none=>False
def YA(n:Nat)(b:Fr)(d:Option Nat)(m:bg)(t:Nat)(l:ae)(k:Fr->SV->bg->Prop):Prop:=
 match d with
 |some a=>match kM b (n+a)with
  | .DZ _ _ _=>False
  |_=>Ts (m.push (.cells (db l) t)) λc=>k ((n+a,.box m.size t l)::b) (.c (.bp (n+a) m.size 0)) c
 |none=>Ts (m.push (.cells (db l) t)) λc=>k b (.c (.p m.size 0)) c
def TP(n:Nat)(c:Fr)(m:bg)(x:SV)(l:ae)(k:Fr->SV->bg->Prop):Prop:=
 match x with
 | .c (.p b o)=>jb m b o l.length/\Ts (aV m b o l) λa=>EK (Re n c []) m a (k c .un a)
 | .c (.bp q b o)=>match kM c q with
  | .box d f e=>bif Nat.ble (o+l.length) e.length then OZ d b (Ts (aV m b o l) λa=>k ((q,.box d f (kJ e o l))::c) .un a)else False
  | .DZ _ _ _=>False
  |_=>jb m b o l.length/\Ts (aV m b o l) λa=>EK (Re n c []) m a (k c .un a)
 |_=>False
def wr(P:Program)(T:TT)(G:ad)(n:Nat)(a:Fr)(m:bg)(h:Option Nat)(o:Nat)(k:Fr->SV->bg->Prop):Op->Prop
 | .alloc t=>match jx T t with
  |some f=>bif f.yS then False else YA n a h m t (f.sh.map Sh.zero) k
  |none=>False
 | .box t x=>match(ev a x).cells with
  |some l=>match J9 a l with
   |some d=>YA n d h m t l k
   |none=>False
  |none=>False
 | .buildSlice t g i=>match jx T t with
  |some ⟨.slice e,_,_⟩=>match jx T e with
   |some c=>bif c.yS||!(Nat.ble (g*c.sh.length) 16777216)then False else
    BA T a c.sh.length (na (c.sh.map Sh.zero) g) i.toList λl=>match J9 a l with
     |some d=>Ts (m.push (.cells (db l) e)) λb=>k d (.c (.s (.mk m.size 0 g g))) b
     |none=>False
   |none=>False
  |_=>False
 | .store t x y=>match(ev a y).cells,jx T t with
  |some l,some f=>bif f.yS||!(Nat.beq l.length f.sh.length)then False else match J9 a l with
   |some d=>TP n d m (ev a x) l k
   |none=>False
  |_,_=>False
 | .makeSlice t x y=>match jx T t,ev a x,ev a y with
  |some ⟨.slice e,_,_⟩,.c (.i l),.c (.i f)=>match jx T e with
   |some c=>bif c.yS then False else 0<=l/\l<=f/\(c.bytes:Int)*f<=281474976710656/\f<=9223372036854775807/\
    Ts (m.push (.cells (db (na (c.sh.map Sh.zero) f.toNat)) e)) λb=>k a (.c (.s (.mk m.size 0 l.toNat f.toNat))) b
   |none=>False
  |_,_,_=>False
 | .makeFunc g first f=>bif first.toList.all (λx=>(ev a x).mT)&&f.toList.all (λx=>(ev a x).mT)then
  match ZE a (first.toList.map (ev a)++f.toList.map (ev a))with
  |some d=>k d (.c (.fn g (first.toList.map λx=>(ev a x).v).toArray (f.toList.map λx=>(ev a x).v).toArray)) m
  |none=>False
  else False
 | .makeMap _ none=>Ts (m.push (.map #[] 0)) λb=>k a (.c (.mp m.size)) b
 | .lookup t x y false=>match jx T t,ev a x,ev a y with
  |some ⟨.map f g,_,_⟩,.c (.mp d),.c (.i n)=>match jx T f,jx T g with
   |some ⟨.cell,[.I],_⟩,some ⟨.cell,[.I],_⟩=>∃l,H9 m d l/\k a (.c (.i (zA l n))) m
   |_,_=>False
  |_,_,_=>False
 | .mapUpdate t x y z=>match jx T t,ev a x,ev a y,ev a z with
  |some ⟨.map f _,_,_⟩,.c (.mp d),.c (.i g),.c (.i v)=>match jx T f with
   |some ⟨.cell,[.I],_⟩=>∃l,H9 m d l/\∀b,H9 b d (Oh l g v)->b.size=m.size->(∀j,j≠d->b[j]? =m[j]?)->EK (Re n a []) m b (k a .un b)
   |_=>False
  |_,_,_,_=>False
 | .call ⟨.value f,d,_⟩=>Zo P T G n a m o f d.toList k
 | .call ⟨.builtin .append,d,f⟩=>match d.toList,f.toList with
  |[x,y],[t,u]=>match jx T t,jx T u,ev a x,ev a y with
   |some ⟨.slice e,_,_⟩,some ⟨.slice _,_,_⟩,.c (.s s),.c (.s z)=>match jx T e with
    |some c=>bif c.yS||Nat.beq c.bytes 0 then False else mj m e (c.sh.map Sh.zero) c.bytes s z λr b=>EK (Re n a []) m b (k a (.c (.s r)) b)
    |none=>False
   |_,_,_,_=>False
  |_,_=>False
 | .call ⟨.builtin .copy,d,f⟩=>match d.toList,f.toList with
  |[x,y],t::_=>match jx T t,ev a x,ev a y with
   |some ⟨.slice e,_,_⟩,.c (.s s),.c (.s z)=>match jx T e with
    |some c=>bif c.yS then False else ac0 m c.sh.length s z λx b=>EK (Re n a []) m b (k a x b)
    |none=>False
   |_,_,_=>False
  |_,_=>False
 |_=>False
def Sc(P:Program)(g:Nat):Bool:=
 match P.funcs[g]? with
 |some a=>!(a.name== "runtime.NumGoroutine")&&a.body.isSome
 |none=>false
def GOK(P:Program)(G:ad):Prop:=G.all (Sc P)=true
def Vy(a:ae):∀(n i:Nat),i<n*a.length->(na a n)[i]? =a[i%a.length]?
 |0,i,h=>by simp at h
 |n+1,i,h=>by
  have c:0<a.length:=by
   grind [Nat.eq_zero_or_pos,List.length]
  have e:na a (n+1)=a++na a n:=by simp[na,mC]
  rw[e,List.getElem?_append];split
  .grind [Nat.mod_eq_of_lt]
  .rename_i b;rw[Vy a n (i -a.length) (by rw[oB,Nat.one_mul]at h;omega)];grind [Nat.mod_eq_sub_mod]
theorem vv(a:ae)(n:Nat):(na a n).length=n*a.length:=by
 simp[na]
theorem Nm(a:ae)(z:Array Value)(h:z.toList=a.map Ce.v)(n:Nat):
 (Array.range (n*a.length)).map (λi=>z[i%z.size]!)=db (na a n):=by
 apply TZ
 intro i
 have g:z.size=a.length:=by grind [Array.length_toList]
 by_cases b:i<n*a.length
 .have c:=Vy a n i b
  have f:0<a.length:=by
   grind [Nat.eq_zero_or_pos,List.length]
  have e:i%a.length<a.length:=Nat.mod_lt _ f
  have d:(db (na a n))[i]? =((na a n)[i]?).map Ce.v:=by simp[db]
  rw[d,c,<-eE,<-h]
  simp[b,g,e]
 .grind [db,na,vv]
end
section
variable{c:SV}{l:ae}{t:TypeId}
variable{e:Program}{T:TT}{G:ad}
def Ce.aaX(c:Ce):c.v.oneCell'=true:=by
 cases c with
 |s y=>cases y<;>rfl
 |_=>rfl
def nZ:∀(l:ae)(w:World)(b o:Nat),(w.setCells b o (l.map Ce.v)).heap=aV w.heap b o l
 |[],_,_,_=>O
 |c::r,w,b,o=>by
  simp only[eM,World.setCells,aV];rw[nZ r,TC]
def uR:∀(l:ap)(w:World)(a o:Nat),rT w (w.setCells a o l)
 |[],w,_,_=>rT.cU w
 |c::r,w,a,o=>by
  simp only[World.setCells];exact rT.J (b:=w.setCell ⟨a,o,none⟩ c) ⟨O,O,O⟩ (uR r _ a (o+1))
def IY(l:ae)(b o:Nat)(w:World)(h:jb w.heap b o l.length):
 (storeCells ⟨b,o,none⟩ (l.map Ce.v)).run e w=.ok () (w.setCells b o (l.map Ce.v)):=by
 have:=run_storeCells_cells (P:=e) b o (l.map Ce.v) 0 w
  (λj a=>by have:=(h j cB).1;rw[Eb];simpa using this)
  (λj a=>by have:=(h j cB).2;rw[Wj];simpa using this)
  (λv a=>by obtain⟨c,_,rfl⟩:=gK.1 a;exact c.aaX)
 simpa using this
def U9(l:ae)(b o:Nat)(a:World)(h:jG a.heap b o l):(loadCells ⟨b,o,none⟩ l.length).run e a=.ok (db l) a:=by
 have:=run_loadCells_list (P:=e) (w:=a) ⟨b,o,none⟩ (l.map Ce.v) (λj v c=>by
  rw[zU,Eb];rw[eE]at c;obtain⟨d,f,rfl⟩:=jT.1 c;exact h j d f)
 grind [db]
variable{n:Nat}{d:Fr}{a:Act}{m:bg}{k:Fr->SV->bg->Prop}{f:Option Tmp}{g:TypeId}{j:String}{h:Array Edge}{i:Option (Nat×Bool)}
def JU(e:Program)(n:Nat)(a:Act)(m:bg)(o:Oper)(k:Fr->SV->bg->Prop):Prop:=
 ∀(w:World),w.heap=m->∀(f:Act->World->Prop)(Q:Exit->Act->World->Prop),
  (∀d c v b,k d c b.heap->mD n d a->Bx n d b.heap->c.Is v->rT w b->f (a.put o.dst v) b)->o.wp e a w f Q
def mK{o:Oper}{d:Fr}{v:Value}{w b:World}(h:mD n d a)(g:Bx n d b.heap)(p:c.Is v)(m:rT w b)(i:k d c b.heap)(l:(execOp a.eval o).run e w=.ok (.value v) b)
 {f:Act->World->Prop}{Q:Exit->Act->World->Prop}(j:∀d c v b,k d c b.heap->mD n d a->Bx n d b.heap->c.Is v->rT w b->f (a.put o.dst v) b):o.wp e a w f Q:=by
 unfold Oper.wp
 rw[l]
 exact j d c v b i h g p m
def Sp{i:Option Nat}{t:Nat}(g:mD n d a)(f:Bx n d m)(h:YA n d i m t l k):
 ∃b c,mD n b a/\Bx n b (m.push (.cells (db l) t))/\c.Is (.pointer (some ⟨m.size,0,none⟩))/\k b c (m.push (.cells (db l) t)):=by
 unfold YA at h
 split at h
 .split at h
  .exact h.elim
  .rename_i e _ j
   exact⟨(n+e,.box m.size t l)::d,.c (.bp (n+e) m.size 0),g.eB (λ_=>trivial),f.bF (Nat.le_add_right _ _) t l,O,h⟩
 .exact⟨d,.c (.p m.size 0),g,f.push _,O,h⟩
def Vm(s:mD n d a)(g:Bx n d m)(h:TP n d m c l k):
 ∃p b o,mD n p a/\Bx n p (aV m b o l)/\(∀v,c.Is v->v=.pointer (some ⟨b,o,none⟩))/\jb m b o l.length/\k p .un (aV m b o l):=by
 unfold TP at h
 split at h
 .obtain⟨q,r⟩:=pS h.2
  exact⟨_,_,_,s,g.eV q,λv e=>e,h.1,r⟩
 .split at h
  .rename_i w b o _ i j f u
   cases t:Nat.ble (o+l.length) f.length
   .grind
   .rw[t]at h
    obtain⟨rfl,h⟩:=h
    have x:dF m i j f:=g.bz w i j f (bC u)
    exact⟨(w,.box i j (kJ f o l))::d,_,_,s.eB (λ_=>trivial),g.oH u o l,λv e=>e,x.jb (oU t),h⟩
  .exact h.elim
  .obtain⟨q,r⟩:=pS h.2
   exact⟨_,_,_,s,g.eV q,λv e=>e,h.1,r⟩
 .exact h.elim
def Wa(y:yJ e T)(s:mD n d a)(q:Bx n d m)(b:wr e T G n d m f g k (.alloc t)):JU e n a m ⟨f,.alloc t,g,j,h,i⟩ k:=by
 intro l D L Q B
 subst D;simp only[wr]at b;split at b
 .rename_i o C;cases p:o.yS
  .rw[p]at b;obtain⟨I,F,H,K⟩:=Aq y C p;have z:I.cells=db (o.sh.map Sh.zero):=by apply ng.1;simp[F,db]
   obtain⟨J,c,u,r,E,A⟩:=Sp s q b;refine mK (w:=l) (c:=c) (v:=.pointer (some ⟨l.heap.size,0,none⟩)) (b:={l with heap:=l.heap.push (.cells (db (o.sh.map Sh.zero)) t)}) u r E ⟨O,O,O⟩ A ?_ B;simp[execOp,Instr.alloc,H,newVar,newRow,z]
  grind
 .exact b.elim
def Zs(p:mD n d a)(q:Bx n d m){c:Operand}(b:wr e T G n d m f g k (.box t c)):JU e n a m ⟨f,.box t c,g,j,h,i⟩ k:=by
 intro o F L Q E
 subst F;simp only[wr]at b;split at b
 .rename_i l D;split at b
  .rename_i K A;obtain⟨y,s⟩:=uw A p q;obtain⟨B,z⟩:=tD D;obtain⟨J,I,u,r,H,C⟩:=Sp y s b;refine mK (w:=o) (c:=I) (v:=.pointer (some ⟨o.heap.size,0,none⟩)) (b:={o with heap:=o.heap.push (.cells (db l) t)}) u r H ⟨O,O,O⟩ C ?_ E;simp[execOp,Instr.box,newVar,newRow,p.eq O B,z,db]
  .exact b.elim
 .exact b.elim
def Rl(p:mD n d a)(w:Bx n d m){o:Fn}{first b:Array Operand}(l:wr e T G n d m f g k (.makeFunc o first b)):JU e n a m ⟨f,.makeFunc o first b,g,j,h,i⟩ k:=by
 intro C B E Q A
 subst B;simp only[wr]at l;cases q:(first.toList.all (λc=>(ev d c).mT)&&b.toList.all (λc=>(ev d c).mT))
 .grind
 .rw[q]at l;simp only[eZ]at q;obtain⟨t,u⟩:=q;have r:(first.toList.map λc=>(ev d c).v).toArray=first.map a.eval:=by
   apply ng.1;simp[Gg p t]
  have s:(b.toList.map λc=>(ev d c).v).toArray=b.map a.eval:=by
   apply ng.1;simp[Gg p u]
  simp only[pK]at l;split at l
  .rename_i D z;obtain⟨y,x⟩:=uw z p w;refine mK y x (v:=.func o (first.map a.eval) (b.map a.eval)) ?_ (rT.cU C) l ?_ A
   .show Value.func o (first.map a.eval) (b.map a.eval)=Value.func o _ _;rw[r,s]
   .simp[execOp,Instr.makeFunc]
  .exact l.elim
def NK(m:mD n d a)(e:Nat):
 ∀(q:aG)(b:ae)(k:ae->Prop),BA T d e b q k->
  ∃l,k l/\Instr.fill (λi=>some (i*e,e)) (b.map Ce.v).toArray (q.map λp=>(p.1,a.eval p.2))=some (l.map Ce.v).toArray
 |[],b,k,h=>⟨b,h,O⟩
 |(i,c)::x,b,k,h=>by
  simp only[BA]at h;split at h
  .rename_i f u;cases g:(Nat.beq f.length e&&Nat.ble (i*e+f.length) b.length)
   .grind
   .rw[g]at h;simp only[eZ]at g;obtain⟨j,o⟩:=g;have j:=gB j;have o:=oU o;obtain⟨l,r,t⟩:=NK m e x (qO b (i*e) f) k h;refine⟨l,r,?_⟩;obtain⟨s,p⟩:=tD u;have v:=m.eq O s;simp only[eM,Instr.fill,v,p,List.size_toArray,jX,j];rw[aW cB,<-t];congr 1;apply TZ;intro w;have y:=Sk (f.map Ce.v) 0 (i*e) (b.map Ce.v).toArray w;grind [Array.toList_zipIdx,Gj,List.map,Ce.v,qO,Option.map]
  .exact h.elim
def NS(B:yJ e T)(D:mD n d a)(N:Bx n d m){b:Nat}{z:Array (Nat×Operand)}(p:wr e T G n d m f g k (.buildSlice t b z)):JU e n a m ⟨f,.buildSlice t b z,g,j,h,i⟩ k:=by
 intro q W ae aa R
 subst W;simp only[wr]at p;split at p
 .rename_i L sh ab U;split at p
  .rename_i o H;cases r:(o.yS||!(Nat.ble (b*o.sh.length) 16777216))
   .rw[r]at p;simp only[cV,afv]at r;have ac:=oU r.2;have I:=(nl (B.Cm U)).1;obtain⟨K,X,Y,ad⟩:=Aq B H r.1;have F:=λq=>np B H r.1 q;obtain⟨l,y,s⟩:=NK D _ _ _ _ p;cases C:J9 d l with
    |none=>rw[C]at y;exact y.elim
    |some u=>
    rw[C]at y;obtain⟨Q,P⟩:=uw C D N;refine mK (w:=q) (c:=.c (.s (.mk q.heap.size 0 b b))) (v:=.slice (some ⟨q.heap.size,0,none⟩) b b) (b:={q with heap:=q.heap.push (.cells (db l) L)}) Q (P.push _) O ⟨O,O,O⟩ y ?_ R;have E:(z.map λu=>(u.1,a.eval u.2)).toList=z.toList.map λu=>(u.1,a.eval u.2):=bO;have Z:K.cells.toList=(o.sh.map Sh.zero).map Ce.v:=by simp[X]
    have J:(o.sh.map Sh.zero).length=o.sh.length:=bO;have mu:=Nm (o.sh.map Sh.zero) K.cells Z b;rw[J]at mu;by_cases A:b*o.sh.length=0
    .have S:na (o.sh.map Sh.zero) b=[]:=by
      apply cp.1;rw[vv,J,A]
     rw[S]at s;simp only[execOp,Instr.buildSlice,ez,run_underlying I,dt,F,A];simp only[E];have M:(Array.map (λc=>(default:Value)) (Array.range 0))=#[]:=bO;simp at s⊢;rw[M,s];simp[newRow,db]
    .simp only[execOp,Instr.buildSlice,ez,run_underlying I,dt,F,A,nv];have:¬(b*o.sh.length>2^24):=V;simp only[this,nv,Y,ez,iK,dt,E];rw[mu];simp only[db]at s⊢;simp[s,newRow]
   grind
  .exact p.elim
 .exact p.elim
def Wb(C:yJ e T)(r:mD n d a)(v:Bx n d m){c y:Operand}(b:wr e T G n d m f g k (.store t c y)):JU e n a m ⟨f,.store t c y,g,j,h,i⟩ k:=by
 intro w L Z Q H
 subst L;simp only[wr]at b;split at b
 .rename_i l s F K;cases o:(s.yS||!(Nat.beq l.length s.sh.length))
  .rw[o]at b;simp only[zQ]at b;simp only[cV,afv]at o;split at b
   .rename_i N D;obtain⟨B,z⟩:=uw D r v;obtain⟨u,p,q,A,x,M,I,E⟩:=Vm B z b;have U:=gB o.2;obtain⟨S,R⟩:=tD F;have W:=λw=>np C K o.1 w;unfold Oper.wp;have J:(execOp a.eval ⟨f,.store t c y,g,j,h,i⟩).run e w=.ok .skip (w.setCells p q (l.map Ce.v)):=by
     have V:=IY (e:=e) l p q w I;have X:a.eval c=.pointer (some ⟨p,q,none⟩):=M _ (r.ev c);have Y:(a.eval y).cells=(l.map Ce.v).toArray:=by grind [mD.eq]
     grind [Go.execOp,Go.Instr.storeAt,Go.Instr.sureAddr,Go.storeVar,Go.Sem.run_bind,Go.Sem.run_pure,Go.Result.andThen_ok,List.size_toArray,List.length_map]
    rw[J];exact H u .un undef _ (by rw[nZ];exact E) A (by rw[nZ];exact x) O (uR _ _ _ _)
   .exact b.elim
  grind
 .exact b.elim
end
section
variable{b y f:Operand}{t:TypeId}{i:Array Operand}{p:Array TypeId}
variable{c:Program}{T:TT}{G:ad}
variable{n:Nat}{e:Fr}{a:Act}{m:bg}{k:Fr->SV->bg->Prop}{h:Option Tmp}{g:TypeId}{o:String}{j:Array Edge}{l:Option (Nat×Bool)}
theorem TW{b:Int}(a: -9223372036854775808<=b)(c:b<=9223372036854775807):IntKind.i64.wrap b=b:=by
 grind [Go.IntKind.bits,Go.IntKind.signed,Go.IntKind.wrap]
theorem de{b:Int}(a: -9223372036854775808<=b)(c:b<=9223372036854775807):eJ b=b:=TW a c
def PJ(r:yJ c T)(u:mD n e a)(F:Bx n e m)(i:wr c T G n e m h g k (.makeSlice t b y)):JU c n a m ⟨h,.makeSlice t b y,g,o,j,l⟩ k:=by
 intro q W ai ae J
 subst W;simp only[wr]at i;split at i
 .rename_i D sh af p d R Z hy;split at i
  .rename_i f z;cases s:f.yS
   .rw[s]at i;obtain⟨h0,h1,h2,h3,I⟩:=i;have U:=(nl (r.Cm R)).1;obtain⟨C,hz,ac,ah⟩:=Aq r z s;obtain⟨ti,H,ag,S,_⟩:=KN r z s;have Q:=λq=>np r z s q;refine mK (w:=q) (c:=.c (.s (.mk q.heap.size 0 p.toNat d.toNat))) (v:=.slice (some ⟨q.heap.size,0,none⟩) p.toNat d.toNat) (b:={q with heap:=q.heap.push (.cells (db (na (f.sh.map Sh.zero) d.toNat)) D)}) u (F.push _) O ⟨O,O,O⟩ I ?_ J;have ad:C.cells.toList=(f.sh.map Sh.zero).map Ce.v:=by simp[hz]
    have B:(f.sh.map Sh.zero).length=f.sh.length:=bO;have mu:=Nm (f.sh.map Sh.zero) C.cells ad d.toNat;rw[B]at mu;have aa:a.eval b=.int .i64 p:=u.eq Z O;have ab:a.eval y=.int .i64 d:=u.eq hy O;have Y:IntKind.i64.wrap p=p:=by grind [TW]
    have X:IntKind.i64.wrap d=d:=by grind [TW]
    have K:¬d<0:=V;have L:¬((f.bytes:Int)*d>2^48):=by
     grind
    have M:¬p<0:=V;have N:¬p>d:=V;simp only[execOp,Instr.makeSlice,ez,run_underlying U,dt,asInt,asIntOf,aa,ab,iK,S,Y,X,H];simp only[K,L,M,N,decide_false,abn,oT,nv];simp only[ez,dt,run_askRoom,Q];by_cases A:d.toNat*f.sh.length=0
    .have P:na (f.sh.map Sh.zero) d.toNat=[]:=by
      apply cp.1;rw[vv,B,A]
     rw[P];have E:(Array.map (λb=>(default:Value)) (Array.range 0))=#[]:=bO;simp[A,newRow,db];rw[E]
    .simp only[A,nv,ez,ac,dt,iK];rw[mu];simp[newRow]
   grind
  .exact i.elim
 .exact i.elim
def PM:∀{c:aA}{k:ae->Prop},exC c k->∃l,k l
 |[],_,h=>⟨_,h⟩
 |_::_,_,⟨b,h⟩=>let⟨_,a⟩:=PM h;⟨_,a⟩
def Ka:∀{p:ad}{k:aH->Prop},Yu T p k->∃l,k l
 |[],_,h=>⟨_,h⟩
 |t::p,k,h=>by
  simp only[Yu]at h;split at h
  .obtain⟨l,c⟩:=PM h;obtain⟨d,a⟩:=Ka c;exact⟨_,a⟩
  .obtain⟨b,c⟩:=h;obtain⟨d,a⟩:=Ka c;exact⟨_,a⟩
  .obtain⟨b,c⟩:=h;obtain⟨d,a⟩:=Ka c;exact⟨_,a⟩
  .exact h.elim
def YK{t:Nat}{v:Value}{k:SV->Prop}(h:U8 T t v k):∃b:SV,b.Is v/\k b:=by
 unfold U8 at h;split at h
 .exact⟨.jO,trivial,h⟩
 .obtain⟨l,c,a⟩:=Ka h;exact⟨.tup l,c,a⟩
 .obtain⟨l,c,a⟩:=PM h;exact⟨.agg l,c,a⟩
 .rename_i s _ _;obtain⟨b,c,a⟩:=h;exact⟨.c (s.mk b),c,a⟩
 .obtain⟨b,c,a⟩:=h;exact⟨.c (.s b),c,a⟩
 .exact h.elim
def PI(z:GOK c G)(A:mD n e a){d:Fr}(B:mD n d a)(y:Bx n d m){q:Nat}{first s:Array Value}(E:a.eval f=.func (.func q) first s)
 (H:G.elem q=true)(J:i.toList.all (λb=>(ev e b).mT)=true)
 (x:bK c q (first.toList++(i.toList.map λb=>(ev e b).v)++s.toList) m λv r=>EK (Re n d []) m r (U8 T g v λb=>k d b r)):
 JU c n a m ⟨h,.call ⟨.value f,i,p⟩,g,o,j,l⟩ k:=by
 intro w P W S K
 subst P
 have r:=LF.1 z q (sp H)
 have C:i.map a.eval=(i.toList.map λb=>(ev e b).v).toArray:=by
  apply ng.1;simp[<-Gg A J]
 unfold Sc at r
 split at r
 .rename_i u F
  simp only[eZ,yg]at r
  have D:u.body.isNone=false:=by cases V:u.body<;>simp_all
  have L:(execOp a.eval ⟨h,.call ⟨.value f,i,p⟩,g,o,j,l⟩).run c w=
   .ok (.enter q (first.toList++(i.toList.map λb=>(ev e b).v)++s.toList).toArray) w:=by
   simp only[execOp,resolve,E,C,Deferred.ofValue,ez,iK,dt,invoke,callFunc,run_program,F,r.1,D,oT,nv]
   simp
  unfold Oper.wp
  rw[L]
  refine(x w O).mono ?_
  rintro U R ⟨v,rfl,M,t⟩
  obtain⟨N,t⟩:=pS t
  obtain⟨b,Q,I⟩:=YK t
  exact K d b v R I B (y.eV N) Q M
 .simp at r
def Yr(v:GOK c G)(r:mD n e a)(y:Bx n e m)(d:wr c T G n e m h g k (.call ⟨.value f,i,p⟩)):JU c n a m ⟨h,.call ⟨.value f,i,p⟩,g,o,j,l⟩ k:=by
 simp only[wr,Zo]at d;split at d
 .exact d.elim
 rename_i D z;obtain⟨w,u⟩:=uw z r y;split at d
 .rename_i s first x t
  cases q:(G.elem s&&i.toList.all (λb=>(ev e b).mT))
  .grind
  .rw[q]at d;simp only[eZ]at q;exact PI v r w u (r.eq t O) q.1 q.2 d
 .rename_i x t;cases q:(i.toList.all (λb=>(ev e b).mT))
  .grind
  .rw[q]at d;obtain⟨s,A,B,d⟩:=d;have C:a.eval f=.func (.func s) x.2.1 x.2.2:=by
    rw[<-A];exact r.eq t O
   exact PI v r w u C B q d
 .exact d.elim
def wC(a:c.underlying t=some (.int .i64))(e:Bool)(b:Int)(w:World):(Instr.checkKey e 10000 t (.int .i64 b)).run c w=.ok () w:=by
 have:Instr.checkKey e 10000 t (.int .i64 b)=Instr.checkKey e (9999+1) t (.int .i64 b):=rfl;rw[this];generalize 9999=d;simp[Instr.checkKey,run_underlying a]
def Ee(b:Int):∀(a:List MapEntry)(l:aC)(i:Nat),a.map (λe=>(e.key,e.val))=l.map (λp=>(Value.int .i64 p.1,Value.int .i64 p.2))->
 (Instr.findNow (.int .i64) (.int .i64 b) a i=some none/\zA l b=0/\(∀v,Oh l b v=l++[(b,v)]))\/
 ∃j u,Instr.findNow (.int .i64) (.int .i64 b) a i=some (some (i+j,.int .i64 u))/\zA l b=u/\j<a.length/\l[j]? =some (b,u)/\∀v,Oh l b v=l.set j (b,v)
 |[],[],i,_=>bC ⟨O,O,λv=>O⟩
 |[],_::_,i,h=>by simp at h
 |_::_,[],i,h=>by simp at h
 |e::a,(j,u)::l,i,h=>by
  simp only[eM,List.cons.injEq,SI]at h;obtain⟨⟨o,s⟩,h⟩:=h;have p:Instr.sameNow (.int .i64) (.int .i64 b) e.key=some (b==j):=by grind [Go.Instr.sameNow]
  by_cases f:b=j
  .subst f;refine bR ⟨0,u,?_,?_,bO,bO,?_⟩
   .grind [Go.Instr.findNow]
   .simp[zA]
   .intro v;simp[Oh]
  .have n:(b==j)=false:=cB;rcases Ee b a l (i+1) h with⟨g,c,d⟩|⟨q,r,g,c,d,k,m⟩
   .grind [Go.Instr.findNow,zA,Oh]
   .refine bR ⟨q+1,r,?_,?_,sp d,sp k,?_⟩
    .grind [Go.Instr.findNow]
    .simp[zA,f,c]
    grind [Oh]
def S0(i:mD n e a)(f:Bx n e m){r:Option Operand}(d:wr c T G n e m h g k (.makeMap t r)):JU c n a m ⟨h,.makeMap t r,g,o,j,l⟩ k:=by
 intro b q s Q p
 subst q;cases r with
 |some r=>exact d.elim
 |none=>
  refine mK (w:=b) (c:=.c (.mp b.heap.size)) (v:=.map (some b.heap.size)) (b:={b with heap:=b.heap.push (.map #[] 0)}) i (f.push _) O ⟨O,O,O⟩ d ?_ p;simp[execOp,Instr.makeMap]
def Uu(s:yJ c T)(r:mD n e a)(K:Bx n e m){z:Bool}(d:wr c T G n e m h g k (.lookup t b y z)):JU c n a m ⟨h,.lookup t b y z,g,o,j,l⟩ k:=by
 intro f W ag ad S
 subst W;cases z with
 |true=>exact d.elim
 |false=>
  simp only[wr]at d;split at d
  .rename_i kt et sh ae B i V X Y;split at d
   .rename_i b1 b2 R P;obtain⟨u,⟨C,I,N,M⟩,Q⟩:=d;have E:=(Gs (s.Cm V)).1;obtain⟨⟨J,hd,hp⟩,_⟩:=qS (s.Cm R);have L:J=.int .i64:=by
     grind [BD]
    subst L;obtain⟨A,Z,ac,ab⟩:=Aq s P O;have aa:A=.int .i64 0:=by
     have:A.cells.toList=[Value.int .i64 0]:=Z;have U:=ab O;cases A<;>first|(simp[Value.cells]at this;done)|(simp[Value.cells]at this;rw[this.1,this.2])|exact absurd O (U _)
    have F:a.eval b=.map (some B):=r.eq X O;have H:a.eval y=.int .i64 i:=r.eq Y O;have D:(getObj B).run c f=.ok (.map C I) f:=by simp[getObj,Sem.run,N]
    refine mK (w:=f) (c:=.c (.i (zA u i))) (v:=.int .i64 (zA u i)) (b:=f) r K O (rT.cU f) Q ?_ S;rcases Ee i C.toList u 0 M with⟨p,q,_⟩|⟨af,ah,p,q,_⟩
    .simp[execOp,Instr.lookup,run_underlying E,F,H,D,wC hd,Instr.findKey,run_underlying hd,p,ac,aa,q]
    .simp[execOp,Instr.lookup,run_underlying E,F,H,D,wC hd,Instr.findKey,run_underlying hd,p,q]
   .exact d.elim
  .exact d.elim
def PK(J:yJ c T)(r:mD n e a)(I:Bx n e m){z:Operand}(q:wr c T G n e m h g k (.mapUpdate t b y z)):JU c n a m ⟨h,.mapUpdate t b y z,g,o,j,l⟩ k:=by
 intro w hw ag ae N
 subst hw;simp only[wr]at q;split at q
 .rename_i kt et sh af f d u ht hx hy hz;split at q
  .rename_i b1 ab;obtain⟨ad,⟨p,i,C,v⟩,M⟩:=q;have Q:=(Gs (J.Cm ht)).1;obtain⟨⟨V,hd,hp⟩,_⟩:=qS (J.Cm ab);have Z:V=.int .i64:=by
    grind [BD]
   subst Z;have R:a.eval b=.map (some f):=r.eq hx O;have S:a.eval y=.int .i64 d:=r.eq hy O;have U:a.eval z=.int .i64 u:=r.eq hz O;have L:(getObj f).run c w=.ok (.map p i) w:=by simp[getObj,Sem.run,C]
   have P:∀E,(setObj f E).run c w=.ok () {w with heap:=w.heap.setIfInBounds f E}:=λE=>by simp[setObj,Sem.run,C]
   have K:f<w.heap.size:=(gV.1 C).1;unfold Oper.wp;rcases Ee d p.toList ad 0 v with⟨B,W,H⟩|⟨x,ah,B,W,H,X,Y⟩
   .have D:(execOp a.eval ⟨h,.mapUpdate t b y z,g,o,j,l⟩).run c w=.ok .skip {w with heap:=w.heap.setIfInBounds f (.map (p.push {key:=.int .i64 d,val:=.int .i64 u,born:=i}) (i+1))}:=by
     simp[execOp,Instr.mapUpdate,run_underlying Q,R,S,U,L,wC hd,Instr.findKey,run_underlying hd,B,P]
    rw[D];have s:=pS (M {w with heap:=w.heap.setIfInBounds f (.map (p.push {key:=.int .i64 d,val:=.int .i64 u,born:=i}) (i+1))}.heap ?_ bO ?_)
    .exact N e .un undef _ s.2 r (I.eV s.1) O ⟨O,O,O⟩
    .refine⟨_,_,by simp[K];exact⟨O,O⟩,?_⟩;rw[H];simp[v]
    grind [Array.getElem?_setIfInBounds_ne]
   .have aa:(p[x]?).map (·.key)=some (.int .i64 d):=by
     have:=vw (λF=>(F[x]?).map (·.1)) v;simpa[X]using this
    have ac:(Instr.keyThatStays (.int .i64 d) (.int .i64 d)).run c w=.ok (.int .i64 d) w:=by
     simp[Instr.keyThatStays,Instr.sameBits]
    have D:(execOp a.eval ⟨h,.mapUpdate t b y z,g,o,j,l⟩).run c w=.ok .skip {w with heap:=w.heap.setIfInBounds f (.map (p.modify x λA=>{A with key:=.int .i64 d,val:=.int .i64 u}) i)}:=by
     simp only[execOp,Instr.mapUpdate,run_underlying Q,R,S,U,L,wC hd,Instr.findKey,run_underlying hd,B,ez,dt,iK,eW,aa,uj,ac,P]
    rw[D];have s:=pS (M {w with heap:=w.heap.setIfInBounds f (.map (p.modify x λA=>{A with key:=.int .i64 d,val:=.int .i64 u}) i)}.heap ?_ bO ?_)
    .exact N e .un undef _ s.2 r (I.eV s.1) O ⟨O,O,O⟩
    .refine⟨_,_,by simp[K];exact⟨O,O⟩,?_⟩;rw[Y];apply ft;intro F;have A:=vw (λ(q':List (Value×Value))=>q'[F]?) v;simp only[eE]at A;grind [List.length,List.getElem?_eq_some_iff,Array.size]
    grind [Array.getElem?_setIfInBounds_ne]
  .exact q.elim
 .exact q.elim
def xH(l:ae)(z:E)(a e:Nat)(f:l.length=a*e)(w:World)(h:jG w.heap z.bz z.off l)(d:a<=z.len):
 (Builtin.firstCells e a z.v).run c w=.ok (db l) w:=by
 cases z with
 |nil=>
  have b:a=0:=by simp at d;omega
  have:l=[]:=cp.1 cB
  subst this
  simp[Builtin.firstCells,E.v,db]
 |DK g i sp=>
  have b:a=0:=by simp at d;omega
  have:l=[]:=cp.1 cB
  subst this
  simp[Builtin.firstCells,E.v,db,b,loadCells,loadCellsFrom]
 |mk b o i g=>
  simp only[Builtin.firstCells,E.v,<-f]
  exact U9 l b o w h
def TX(a:ae)(z:Array Value)(b:z.toList=a.map Ce.v)(n:Nat):Builtin.zeroCells z n=db (na a n):=by
 grind [Array.size,List.length,Array.length_toList,Nm,Go.Builtin.zeroCells]
def Vt(l r:ae):db (l++r)=db l++db r:=by simp[db]
def Ut(J:yJ c T)(D:mD n e a)(N:Bx n e m)(u:wr c T G n e m h g k (.call ⟨.builtin .append,i,p⟩)):JU c n a m ⟨h,.call ⟨.builtin .append,i,p⟩,g,o,j,l⟩ k:=by
 intro d hw aJ ax R
 subst hw;simp only[wr]at u;split at u
 .rename_i b y t aw aA aH;split at u
  .rename_i B sh ay e2 aK az s z ht ao hx hy;split at u
   .rename_i f ac;cases C:(f.yS||Nat.beq f.bytes 0)
    .rw[C]at u;simp only[cV]at C;obtain⟨A,ag,aE,ae,af⟩:=u;have e1:i=#[b,y]:=by grind [Array.toList_inj]
     have ai:p=#[t,aw]:=by grind [Array.toList_inj]
     subst e1;subst ai;have W:=(nl (J.Cm ht)).1;have X:=(nl (J.Cm ao)).1;obtain⟨zv,hz,au,aI⟩:=Aq J ac C.1;obtain⟨ti,hb,aG,ad,_⟩:=KN J ac C.1;have U:=λd=>np J ac C.1 d;have Y:a.eval b=s.v:=D.eq hx O;have Z:a.eval y=z.v:=D.eq hy O;have H:(Builtin.lenOf z.v).run c d=.ok z.len d:=by cases z<;>simp[Builtin.lenOf,E.v,E.len]
     have ah:(f.sh.map Sh.zero).length=f.sh.length:=bO;rw[ah]at ag;simp only[ah]at ae af;have Q:∀r:World,r.heap=d.heap->(Builtin.firstCells f.sh.length z.len z.v).run c r=.ok (db A) r:=λr ap=>
      xH A z z.len f.sh.length ag r cB bY
     have an:=s.adl;by_cases F:s.len+z.len<=s.cap
     .obtain⟨S,q⟩:=ae F;cases s with
      |nil=>
       simp only[E.Tn,E.aaH]at F S q;have M:z.len=0:=V;have:A=[]:=cp.1 cB;subst this;obtain⟨ab,q⟩:=pS q;refine mK (w:=d) (c:=.c (.s .nil)) (v:=.slice none 0 0) (b:=d) D N O (rT.cU d) q ?_ R;have K:a.eval b=.slice none 0 0:=Y;have I:=Q d O;simp only[execOp,resolve,ez,iK,dt,invoke,builtin,Builtin.append_,qX,eM,ji,K,Z];rw[M]at H I;simp[run_underlying W,run_underlying X,U,H,I]
      |DK L o0 sp=>
       simp only[E.XE,E.aaG]at F S q;have M:z.len=0:=V;have:A=[]:=cp.1 cB;subst this;obtain⟨ab,q⟩:=pS q;refine mK (w:=d) (c:=.c (.s (.DK L o0 sp))) (v:=.slice (some ⟨L,o0,some sp⟩) 0 0) (b:=d) D N O (rT.cU d) q ?_ R;have K:a.eval b=.slice (some ⟨L,o0,some sp⟩) 0 0:=Y;have I:=Q d O;simp only[execOp,resolve,ez,iK,dt,invoke,builtin,Builtin.append_,qX,eM,ji,K,Z];rw[M]at H I;simp[run_underlying W,run_underlying X,U,H,I,db,storeCells]
      |mk I M L aa=>
       simp only[E.kv,E.SU,E.lT,E.vP]at F S q;obtain⟨ab,q⟩:=pS q;refine mK (w:=d) (c:=.c (.s (.mk I M (L+z.len) aa))) (v:=.slice (some ⟨I,M,none⟩) (L+z.len) aa) (b:=d.setCells I (M+L*f.sh.length) (A.map Ce.v)) D (by rw[nZ];exact N.eV ab) O (uR _ _ _ _) (by rw[nZ];exact q) ?_ R;have aj:=IY (e:=c) A I (M+L*f.sh.length) d S;have K:a.eval b=.slice (some ⟨I,M,none⟩) L aa:=Y;simp only[execOp,resolve,ez,iK,dt,invoke,builtin,Builtin.append_,qX,eM,ji,K,Z];simp[run_underlying W,run_underlying X,U,H,F,Q d O,zU,db,aj]
     .obtain⟨S,old,al,aF,q⟩:=af V;have aB:=growslice_fits (need:=s.len+z.len) (old:=s.cap) (bytes:=f.bytes) V S;have M:f.bytes≠0:=λB=>by rw[B]at C;simp at C
      have am:∀r:World,r.heap=d.heap->(Builtin.firstCells f.sh.length s.len s.v).run c r=.ok (db old) r:=λr ap=>
       xH old s s.len f.sh.length al r cB bY
      let I:Question:=.appendCap (s.len+z.len) s.cap B;let nc:=I.cut (d.tape d.drawn I);let K:World:={d with drawn:=d.drawn+1};have aj:s.len+z.len<=nc:=Nat.le_add_right _ _;refine mK (w:=d) (c:=.c (.s (.mk d.heap.size 0 (s.len+z.len) nc))) (v:=.slice (some ⟨d.heap.size,0,none⟩) (s.len+z.len) nc)
       (b:={K with heap:=d.heap.push (.cells (db (old++A++na (f.sh.map Sh.zero) (nc -(s.len+z.len)))) B)}) D (N.push _) O ⟨O,O,O⟩ (pS (q nc aj)).2 ?_ R
      have av:zv.cells.toList=(f.sh.map Sh.zero).map Ce.v:=by simp[hz]
      have aq:=TX (f.sh.map Sh.zero) zv.cells av (nc -(s.len+z.len));have aC:I.forced=false:=rfl;have aD:¬(Builtin.nextslicecap (s.len+z.len) s.cap*f.bytes>2^48):=by
       grind
      simp only[execOp,resolve,ez,iK,dt,invoke,builtin,Builtin.append_,qX,eM,ji,Y,Z];have L:=am K O;have aa:=Q K O;rw[an]at L⊢;simp only[sQ,wz,kG,ez,run_underlying W,run_underlying X,dt,U,iK,H,oT,nv,F,ad,hb,false_or];simp only[M,and_false,nv,ez,dt,ad,aar,yi,newRow];simp[Vt];rw[hb,aW V,aW (show¬(Question.appendCap (s.len+z.len) s.cap B).forced=true by simp[Question.forced])];have ak:(Builtin.firstCells f.sh.length s.len (Value.slice s.cW s.len s.cap)).run c d.drew=.ok (db old) d.drew:=L;have ab:(Builtin.firstCells f.sh.length z.len z.v).run c d.drew=.ok (db A) d.drew:=aa;simp only[ad,dt,ak,ab,au];have ar:Builtin.zeroCells zv.cells ((Question.appendCap (s.len+z.len) s.cap B).cut (d.tape d.drawn (Question.appendCap (s.len+z.len) s.cap B)) -(s.len+z.len))=db (na (f.sh.map Sh.zero) (nc -(s.len+z.len))):=aq;rw[ar];rfl
    grind
   .exact u.elim
  .exact u.elim
 .exact u.elim
end
section
variable{b:Program}{T:TT}{G:ad}
variable{n:Nat}{c:Fr}{a:Act}{m:bg}{k:Fr->SV->bg->Prop}{d:Option Tmp}{e:TypeId}{h:String}{f:Array Edge}{g:Option (Nat×Bool)}
def Ys(K:yJ b T)(t:mD n c a)(S:Bx n c m){r:Array Operand}{I:Array TypeId}(j:wr b T G n c m d e k (.call ⟨.builtin .copy,r,I⟩)):JU b n a m ⟨d,.call ⟨.builtin .copy,r,I⟩,e,h,f,g⟩ k:=by
 intro i hw ai ae U
 subst hw;simp only[wr]at j;split at j
 .rename_i q N ad aj ah ab;split at j
  .rename_i ag sh af s z ht hx hy;split at j
   .rename_i H aa;cases L:H.yS
    .rw[L]at j;obtain⟨o,V,W,X,u⟩:=j;obtain⟨Y,u⟩:=pS u;have R:r=#[q,N]:=by grind [Array.toList_inj]
     subst R;have B:I[0]? =some ad:=by rw[<-Array.getElem?_toList,ab];rfl
     have C:=(nl (K.Cm ht)).1;have A:=λi=>np K aa L i;have D:=t.eq hx O;have F:a.eval N=z.v:=t.eq hy O;have y:(Builtin.lenOf z.v).run b i=.ok z.len i:=by cases z<;>simp[Builtin.lenOf,E.v,E.len]
     have l:(Builtin.firstCells H.sh.length (Nat.min z.len s.len) z.v).run b i=.ok (db o) i:=
      xH o z _ H.sh.length V i W (Nat.min_le_left _ _)
     refine mK (w:=i) (c:=.c (.i (Nat.min z.len s.len:Nat))) (v:=.int .i64 (Nat.min z.len s.len:Nat)) (b:=i.setCells s.bz s.off (o.map Ce.v)) t (by rw[nZ];exact S.eV Y) O (uR _ _ _ _) (by rw[nZ];exact u) ?_ U;cases s with
     |nil=>
      have Q:Nat.min z.len E.nil.len=0:=bO;have:o=[]:=cp.1 cB;subst this;have p:a.eval q=.slice none 0 0:=D;simp only[E.Tn]at l⊢;simp only[execOp,resolve,ez,iK,dt,invoke,builtin,Builtin.copy_,qX,eM,ji,p,F,B];simp only[sQ,wz,kG,ez,run_underlying C,dt,y,A,l,iK];rfl
     |DK J M sp=>
      have Q:Nat.min z.len (E.DK J M sp).len=0:=bO;have:o=[]:=cp.1 cB;subst this;have p:a.eval q=.slice (some ⟨J,M,some sp⟩) 0 0:=D;simp only[E.XE]at l⊢;simp only[execOp,resolve,ez,iK,dt,invoke,builtin,Builtin.copy_,qX,eM,ji,p,F,B];simp only[sQ,wz,kG,ez,run_underlying C,dt,y,A,l,iK,db];rfl
     |mk J M ac Q=>
      have Z:=IY (e:=b) o J M i X;have p:a.eval q=.slice (some ⟨J,M,none⟩) ac Q:=D;simp only[E.kv]at l⊢;simp only[execOp,resolve,ez,iK,dt,invoke,builtin,Builtin.copy_,qX,eM,ji,p,F,B];simp only[sQ,wz,kG,ez,run_underlying C,dt,y,A,l,iK,db,Z];rfl
    grind
   .exact j.elim
  .exact j.elim
 .exact j.elim
def Vv(o:yJ b T)(u:GOK b G)(l:mD n c a)(j:Bx n c m)(p:Oper)(i:wr b T G n c m p.dst p.type k p.op):JU b n a m p k:=by
 obtain⟨d,v,e,h,f,g⟩:=p;cases v with
 |alloc t=>exact Wa o l j i
 |box t x=>exact Zs l j i
 |buildSlice t q r=>exact NS o l j i
 |store t x y=>exact Wb o l j i
 |makeSlice t x y=>exact PJ o l j i
 |makeFunc r first q=>exact Rl l j i
 |makeMap t w=>exact S0 l j i
 |lookup t x y q=>exact Uu o l j i
 |mapUpdate t x y z=>exact PK o l j i
 |call r=>
  obtain⟨s,t,x⟩:=r;cases s with
  |builtin q=>
   cases q with
   |append=>exact Ut o l j i
   |copy=>exact Ys o l j i
   |_=>exact i.elim
  |value q=>exact Yr u l j i
  |invoke w q=>exact i.elim
 |_=>exact i.elim
end
section
variable{b:Array Bool}{j:Nat}{L:List (Nat×(World->Prop))}{a:Act}{w:World}
variable{P:Program}{c:Array Oper}{Q:Exit->Act->World->Prop}{d:Region.Mode}{e:Nat->Nat->Bool}
def zP(P:Program)(d:Region.Mode)(c:Array Oper)(Q:Exit->Act->World->Prop)(e:Nat->Nat->Bool)(L:List (Nat×(World->Prop))):Nat->Array Bool->Act->World->Prop
 |0,b,a,w=>Region.ready d c b=[]/\Q .normal a w
 |h+1,b,a,w=>
  (Region.ready d c b=[]->Q .normal a w)/\
  ∀i∈Region.ready d c b,wpOp P c Q i (λg f=>(∀x∈L,e i x.1=false->x.2 w->x.2 f)/\zP P d c Q e L h (b.setIfInBounds i true) g f) a w
def Q8{L:List (Nat×(World->Prop))}:∀(f:Nat)(b:Array Bool)(a:Act)(w:World),zP P d c Q e L f b a w->wpAny P d c Q f b a w
 |0,_,_,_,h=>h
 |f+1,_,_,_,h=>⟨h.1,λk j=>wpOp_mono (λg l i=>Q8 f _ g l i.2) (h.2 k j)⟩
theorem Ik{L g:List (Nat×(World->Prop))}(j:∀x∈g,x∈L):∀(f:Nat)(b:Array Bool)(a:Act)(w:World),zP P d c Q e L f b a w->zP P d c Q e g f b a w
 |0,_,_,_,h=>h
 |f+1,_,_,_,h=>⟨h.1,λn l=>wpOp_mono (λk o i=>⟨λx m=>i.1 x (j x m),Ik j f _ k o i.2⟩) (h.2 n l)⟩
def Im(e:Nat->Nat->Bool)(b:Array Bool):Prop:=∀i,b.getD i false=true->∀r,e i r=true->b.getD r false=true
def aax(d:Region.Mode)(c:Array Oper)(e:Nat->Nat->Bool):Prop:=
 ∀(i r:Nat)(o:Oper),c[i]? =some o->e i r=true->∃a∈o.after,Region.binds d a=true/\(a.on=r\/e a.on r=true)
theorem BE(k:aax d c e)(l:Im e b)(n:j∈Region.ready d c b){r:Nat}(p:e j r=true):b.getD r false=true:=by
 obtain⟨_,q,o,g⟩:=mem_ready.1 n;obtain⟨f,m,i,h⟩:=k j r q o p;have a:=g f m i;rcases h with rfl|h
 .exact a
 .exact l _ a r h
theorem Im.dY(k:aax d c e)(f:Im e b)(l:j∈Region.ready d c b):Im e (b.setIfInBounds j true):=by
 intro i a r h;by_cases g:j=i
 .grind [Go.getD_set_true,BE]
 .rw[getD_set_ne false g]at a;exact getD_set_true (f i a r h)
def LD{i:Nat}{g:Oper}{v:Value}{S:World->Prop}(T:aax d c e)(z:c[i]? =some g)(C:∀(j:Nat)(D:Oper) m l,c[j]? =some D->D.op≠.select m l)
 (F:∀f a w,Q (.panic f) (a.put g.dst v) w->Q (.panic f) a w):
 ∀(n:Nat)(b:Array Bool)(a:Act)(w:World),Im e b->
  (∀j h,c[j]? =some h->j≠i->b.getD j true=false->(∀f∈h.after,Region.binds d f=true->f.on≠i)->g.apart c h=true)->
  i∈Region.ready d c b->YieldsIf P c S g v a->S w->
  zP P d c Q e ((i,S)::L) n (b.setIfInBounds i true) (a.put g.dst v) w->zP P d c Q e L (n+1) b a w:=by
 intro n
 induction n with
 |zero=>
  intro b a w _ _ M u x H
  refine⟨λr=>cB,λj q=>?_⟩
  by_cases o:j=i
  .subst o;exact u.wpOp z x ⟨λk _ _ r=>r,H⟩
  .have:=ready_mono q o
   rw[H.1]at this
   cases this
 |succ n Z=>
  intro b a w V y M u x H
  refine⟨λr=>cB,λj q=>?_⟩
  by_cases o:j=i
  .grind [Go.YieldsIf.wpOp,Ik,List.mem_cons_of_mem]
  .have E:=H.2 j (ready_mono q o)
   obtain⟨B,h,s,O⟩:=mem_ready.1 q
   have t:b.getD i false=false:=by
    grind [Go.mem_ready,Nat.lt_or_ge,Array.size,Array.getElem?_eq_none]
   have K:∀f∈h.after,Region.binds d f=true->f.on≠i:=λf W R X=>by
    grind
   have U:e j i=false:=by
    grind [BE]
   have N:=wpOp_putIf s (y j h s o B K) (λm l=>C i g m l z) (λm l=>C j h m l s) F u E
   have Y:∀k p,c[k]? =some p->k≠i->(b.setIfInBounds j true).getD k true=false->
    (∀f∈p.after,Region.binds d f=true->f.on≠i)->g.apart c p=true:=λk p G I t J=>by
    refine y k p G I ?_ J
    by_cases A:j=k
    .subst A;exact B
    .rw[getD_set_ne true A]at t;exact t
   grind [Go.wpOp_mono,List.mem_cons_of_mem,Array.setIfInBounds,Im.dY,Go.ready_mono,List.mem_cons_self,Array.setIfInBounds_comm]
def Xc{f:Nat}(k:Region.ready d c b≠[])
 (j:∀i∈Region.ready d c b,wpOp P c Q i (λh g=>(∀x∈L,e i x.1=false->x.2 w->x.2 g)/\zP P d c Q e L f (b.setIfInBounds i true) h g) a w):
 zP P d c Q e L (f+1) b a w:=by constructor<;>grind
theorem Vu(f:Region.ready d c b=[])(h:Q .normal a w):
 ∀g,zP P d c Q e L g b a w
 |0=>⟨f,h⟩
 |_+1=>⟨λ_=>h,by rw[f];simp⟩
end
section
variable{M:ad}{a:Act}{d:Option Nat}{o:Oper}{m:bg}
variable{b:Program}{T:TT}{G:ad}{n:Nat}
def P2:Op->Bool
 | .alloc _| .box ..| .buildSlice ..| .store ..| .makeSlice ..| .makeMap ..| .lookup ..| .mapUpdate ..| .makeFunc ..=>true
 | .call ⟨.builtin .append,_,_⟩| .call ⟨.builtin .copy,_,_⟩=>true
 | .call ⟨.builtin _,_,_⟩=>false
 | .call _=>true
 |_=>false
def wh(n:Nat):Option Nat->Bool
 |none=>true
 |some d=>Nat.blt d n
def PW(a:ar)(j:Nat):Option Nat:=
 match Mi a j with
 |some o=>o.dst
 |none=>none
def gd(e:ar)(a:Fr)(g:Option (Nat×Bool))(Ua b:Fr->Prop):Prop:=
 match g with
 |none=>Ua a
 |some (j,c)=>match PW e j with
  |none=>False
  |some d=>match kM a d with
   | .tt=>bif c then Ua a else b a
   | .ff=>bif c then b a else Ua a
   | .un=>b a
   | .c (.t x)=>(x=true->bif c then Ua ((d,.tt)::a)else b ((d,.tt)::a))/\(x=false->bif c then b ((d,.ff)::a)else Ua ((d,.ff)::a))
   |_=>False
def wy(b:Program)(T:TT)(G:ad)(n:Nat)(c:ar):ar->Fr->bg->(Fr->bg->Prop)->Prop
 |[],a,m,k=>k a m
 |o::kO,a,m,k=>
  bif wh n o.dst then
   gd c a o.guard
    (λa=>bif P2 o.op then wr b T G n a m o.dst o.type (λd x e=>wy b T G n c kO (yr d o.dst x) e k) o.op
     else rd T a m (λx=>wy b T G n c kO (yr a o.dst x) m k) o.op)
    (λa=>wy b T G n c kO (yr a o.dst .un) m k)
  else False
def Ec:ar->ad
 |[]=>[]
 |o::r=>match o.dst with
  |some d=>d::Ec r
  |none=>Ec r
def o8(M:ad)(a b:Act):Prop:=∀t,t∉M->b.tmps.getD t undef=a.tmps.getD t undef
def o8.cU(M:ad)(a:Act):o8 M a a:=λ_ _=>O
def o8.J{b c:Act}(h:o8 M a b)(k:o8 M b c):o8 M a c:=λt d=>(k t d).trans (h t d)
def o8.cG(hd:∀t,d=some t->t∈M){v:Value}:o8 M a (a.put d v):=by
 cases d with
 |none=>exact o8.cU M a
 |some d=>
  intro t c;have b:d≠t:=cB;simp[Act.put,VJ b]
theorem Qb{d:Nat}(hd:o.dst=some d):∀(a:ar),o∈a->d∈Ec a:=by
 intro a;induction a with
 |nil=>intro h;cases h
 |cons x r c=>
  intro h;rcases bo.1 h with b|b
  .grind [Ec,List.mem_cons_self]
  .grind [Ec,List.mem_cons_of_mem]
def Iw(h:wh n d=true):∀t,d=some t->t<n:=by
 rintro t rfl;have:Nat.blt t n=true:=h;simpa[Nat.blt,Nat.succ_le_iff]using this
def Nl(g:Array Oper){i:Fr}(j:mD n i a)(u:Bx n i m)(o:Oper){Ua s:Fr->Prop}(h:gd g.toList i o.guard Ua s):
 (Region.wanted o (yielded g a.tmps)=true/\∃b,Ua b/\mD n b a/\Bx n b m)\/
 (Region.wanted o (yielded g a.tmps)=false/\∃b,s b/\mD n b a/\Bx n b m):=by
 unfold gd at h
 cases k:o.guard with
 |none=>
  rw[k]at h
  exact bC ⟨by simp[Region.wanted,k],i,h,j,u⟩
 |some v=>
  obtain⟨q,z⟩:=v
  rw[k]at h
  simp only at h
  split at h
  .exact h.elim
  .rename_i d hd
   have w:(g[q]?).bind (·.dst)=some d:=by
    grind [PW,tR]
   have b:=j.bt d
   have p:∀c:Bool,a.tmps.getD d undef=.bool c->yielded g a.tmps q=some c:=by
    intro c e;have:a.tmps[d]? =some (.bool c):=by
     cases r:a.tmps[d]? with
     |none=>rw[DI,r]at e;simp[undef]at e
     |some y=>rw[DI,r]at e;simp at e;rw[e]
    grind [Go.yielded]
   split at h
   .rename_i f
    rw[f]at b
    have l:=p true b
    grind [Go.Region.wanted]
   .rename_i f
    rw[f]at b
    have l:=p false b
    grind [Go.Region.wanted]
   .rename_i f
    rw[f]at b
    have l:yielded g a.tmps q=none:=by
     have t:a.tmps.getD d undef=undef:=b;rw[DI]at t;grind [Go.yielded,Go.undef]
    grind [Go.Region.wanted]
   .rename_i x f
    rw[f]at b
    have l:=p x b
    have y:∀c:Bool,x=c->mD n ((d,if c then SV.tt else SV.ff)::i) a:=by
     rintro c rfl;refine⟨j.aQ,j.nN,λt=>?_⟩;simp only[kM];cases e:Nat.beq d t
     .exact j.bt t
     .have:=gB e;subst this;cases x<;>exact b
    grind [Go.Region.wanted,Bx.jO]
   .exact h.elim
def aeb(g:yJ b T){c:Fr}(f:mD n c a)(e:Bx n c m){k:SV->Prop}(h:rd T c m k o.op){w:World}(p:w.heap=m)
 {d:Act->World->Prop}{Q:Exit->Act->World->Prop}(j:∀x v,k x->x.Is v->d (a.put o.dst v) w):o.wp b a w d Q:=by
 obtain⟨x,v,i,q,l⟩:=Qt (P:=b) g f e o h
 unfold Oper.wp
 rw[l w (λr _=>by rw[p])]
 exact j x v i q
def zi(p:yJ b T)(t:GOK b G)(c:Array Oper){Q:Exit->Act->World->Prop}{I:World}{E:Act}:
 ∀(kO:ar)(e:Fr)(m:bg)(k:Fr->bg->Prop)(a:Act)(w:World),(∀o∈kO,o∈c.toList)->wy b T G n c.toList kO e m k->mD n e a->Bx n e m->w.heap=m->rT I w->
  o8 (Ec c.toList) E a->
  (∀i f g,k i g.heap->mD n i f->Bx n i g.heap->rT I g->o8 (Ec c.toList) E f->Q .normal f g)->wpList b c Q kO a w
 |[],e,m,k,a,w,_,h,y,v,f,s,q,r=>by
  subst f;exact r e a w h y v s q
 |o::kO,e,m,k,a,w,L,h,y,v,f,s,q,r=>by
  simp only[wy]at h;cases hd:wh n o.dst
  .grind
  .rw[hd]at h;simp only[pK]at h;have z:=Iw hd;have A:∀d,o.dst=some d->d∈Ec c.toList:=by grind [Qb,List.mem_cons_self]
   have B:=λR N=>L R (aX _ N);unfold wpList;rcases Nl c y v o h with⟨F,i,u,l,j⟩|⟨F,i,M,l,j⟩
   .rw[bn F];refine .inl ?_;cases H:P2 o.op
    .simp only[H,zQ]at u;refine aeb p l j u f λU S D C=>?_;exact zi p t c kO _ m k _ w B D (l.cG C z) j.cG f s (q.J (o8.cG A)) r
    .simp only[H,pK]at u;refine Vv p t l j o u w f _ _ λV U S g D K J C P=>?_;exact zi p t c kO _ _ k _ g B D (K.cG C z) J.cG O (s.J P) (q.J (o8.cG A)) r
   .rw[aW cB];exact zi p t c kO _ m k _ w B M (l.cG (x:=.un) O z) j.cG f s (q.J (o8.cG A)) r
end
section
variable{P:Program}{T:TT}{G:ad}{n:Nat}
def yx:ad->Nat->Nat
 |[],_=>0
 |x::_,0=>x
 |_::r,n+1=>yx r n
def oO:afC->Nat
 |[]=>0
 |e::r=>bif Region.binds .any e then 2^e.on|||oO r else oO r
def sq(a:ad):afC->Nat
 |[]=>0
 |e::r=>bif Region.binds .any e then(2^e.on|||yx a e.on)|||sq a r else sq a r
def oG(a:ad):ar->ad->ad->Bool
 |[],[],[]=>true
 |o::d,p::e,b::c=>Nat.beq p (oO o.after.toList)&&Nat.beq b (sq a o.after.toList)&&oG a d e c
 |_,_,_=>false
def XK:Op->aD
 | .alloc _| .ready _| .waits _=>[]
 | .move x| .assign x| .box _ x| .load _ x| .nilCheck x| .unOp _ _ x| .convert _ _ x| .sliceToArrayPointer _ x| .makeInterface _ x
 | .makeChan _ x| .fieldAddr _ x _| .field _ x _| .range _ x| .next x _| .entry x| .typeAssert x _ _ _| .extract x _| .panic x| .recv _ x _=>[x]
 | .pick c a b=>[c,a,b]
 | .build _ b| .buildSlice _ _ b=>b.toList.map (·.2)
 | .store _ a v| .binOp _ _ a v _| .makeSlice _ a v| .indexAddr _ a v| .index _ a v| .lookup _ a v _| .mapEntry _ a v| .send a v=>[a,v]
 | .makeFunc _ first a=>first.toList++a.toList
 | .makeMap _ r=>r.toList
 | .slice _ x l h m=>[x]++l.toList++h.toList++m.toList
 | .mapUpdate _ m k v| .entryStore _ m k v| .insert _ m k v=>[m,k,v]
 | .call ⟨.value f,a,_⟩| .go ⟨.value f,a,_⟩| .defer ⟨.value f,a,_⟩=>f::a.toList
 | .call ⟨.invoke f _,a,_⟩| .go ⟨.invoke f _,a,_⟩| .defer ⟨.invoke f _,a,_⟩=>f::a.toList
 | .call ⟨.builtin _,a,_⟩| .go ⟨.builtin _,a,_⟩| .defer ⟨.builtin _,a,_⟩=>a.toList
 | .select a _=>(a.flatMap λc=>#[c.chan]++c.send.toArray).toList
def Z3(a:Op):a.operands.toList=XK a:=by
 cases a<;>try (simp[Op.operands,XK];done)
 all_goals
  rename_i c
  obtain⟨b,d,e⟩:=c
  cases b<;>simp[Op.operands,XK,Call.operands]
def NO(d:Nat):aD->Bool
 |[]=>false
 | .tmp t::r=>Nat.beq t d||NO d r
 |_::r=>NO d r
def Tq(a:ar)(o:Oper)(d:Nat):Bool:=
 NO d (XK o.op)||(match o.guard with
  |some (g,_)=>(match PW a g with|some t=>Nat.beq t d|none=>false)
  |none=>false)
def SR(a:ar)(x y:Oper):Bool:=
 (match x.dst with
  |some d=>!Tq a y d&&(match y.dst with|some e=>!Nat.beq d e|none=>true)
  |none=>true)&&
 (match y.dst with
  |some d=>!Tq a x d
  |none=>true)
def adi:Op->Bool
 | .select ..=>true
 |_=>false
def DX(b:ar)(i:Nat)(a:Nat)(o:Oper):Nat->ar->ad->Bool
 |_,[],_=>true
 |_,_,[]=>true
 |j,x::c,p::d=>(Nat.beq j i||Nat.testBit p i||Nat.testBit a j||SR b o x)&&DX b i a o (j+1) c d
def JZ(a:ar)(b:ad):Nat->ar->ad->Bool
 |_,[],_=>true
 |_,_,[]=>true
 |i,o::e,c::d=>!adi o.op&&(P2 o.op||DX a i c o 0 a b)&&JZ a b (i+1) e d
def nQ(done p i:Nat):Bool:=!(Nat.testBit done i)&&Nat.beq (p&&&done) p
def Bh(done:Nat):Nat->ar->ad->Option Nat
 |_,[],_=>none
 |_,_,[]=>none
 |i,o::a,p::b=>bif nQ done p i&&!(P2 o.op)then some i else Bh done (i+1) a b
def tS(done:Nat):Nat->ar->ad->ad
 |_,[],_=>[]
 |_,_,[]=>[]
 |i,_::a,p::b=>bif nQ done p i then i::tS done (i+1) a b else tS done (i+1) a b
def QB(m a:bg):ao->Prop->Prop
 |[],k=>k
 |(b,o)::r,k=>aS a b o=aS m b o/\QB m a r k
def Ih(a:Nat)(m b:bg):List (Nat×ao)->Prop->Prop
 |[],k=>k
 |(r,c)::L,k=>bif Nat.testBit a r then Ih a m b L k else QB m b c (Ih a m b L k)
def SN:ad->(Nat->Prop)->Prop
 |[],_=>True
 |[i],f=>f i
 |i::r,f=>f i/\SN r f
def sP(P:Program)(T:TT)(G:ad)(n:Nat)(b:ar)(c d:ad):Nat->Nat->Fr->bg->List (Nat×ao)->(Fr->bg->Prop)->Prop
 |0,done,a,m,_,k=>match tS done 0 b c with
  |[]=>k a m
  |_=>False
 |e+1,done,a,m,L,k=>
  match Bh done 0 b c with
  |some i=>match Mi b i with
   |some o=>bif wh n o.dst then
    gd b a o.guard
     (λa=>rd T a m (λx=>sP P T G n b c d e (done|||2^i) (yr a o.dst x) m ((i,YX T a o.op)::L) k) o.op)
     (λa=>sP P T G n b c d e (done|||2^i) (yr a o.dst .un) m L k)
    else False
   |none=>False
  |none=>match tS done 0 b c with
   |[]=>k a m
   |h=>SN h λi=>match Mi b i with
    |some o=>bif wh n o.dst then
     gd b a o.guard
      (λa=>wr P T G n a m o.dst o.type (λg x f=>Ih (yx d i) m f L (sP P T G n b c d e (done|||2^i) (yr g o.dst x) f L k)) o.op)
      (λa=>sP P T G n b c d e (done|||2^i) (yr a o.dst .un) m L k)
     else False
    |none=>False
theorem rm(r:Nat):∀(a:afC),Nat.testBit (oO a) r=true<->∃e∈a,Region.binds .any e=true/\e.on=r
 |[]=>by simp[oO]
 |e::a=>by
  have b:=rm r a;grind [oO,Go.Region.binds]
theorem CG(b:ad)(r:Nat):∀(a:afC),Nat.testBit (sq b a) r=true->∃e∈a,Region.binds .any e=true/\(e.on=r\/Nat.testBit (yx b e.on) r=true)
 |[],h=>by simp[sq]at h
 |e::a,h=>by
  have c:=CG b r a;grind [sq,Go.Region.binds,List.mem_cons_of_mem,List.mem_cons_self]
def pA(c:ad):∀{d:ar}{e a:ad},oG c d e a=true->∀(i:Nat)(o:Oper),d[i]? =some o->
 e[i]? =some (oO o.after.toList)/\yx a i=sq c o.after.toList/\∃b,a[i]? =some b
 |[],[],[],_,i,o,h=>by simp at h
 |x::d,p::e,b::a,h,i,o,f=>by
  simp only[oG,eZ]at h;obtain⟨⟨g,j⟩,k⟩:=h;cases i with
  |zero=>
   simp at f;subst f;exact⟨by simp[gB g],by simp[yx,gB j],b,bO⟩
  |succ i=>
   have:=pA c k i o cB;simpa[yx]using this
 |[],[],_::_,h,_,_,_=>by simp[oG]at h
 |[],_::_,_,h,_,_,_=>by simp[oG]at h
 |_::_,[],_,h,_,_,_=>by simp[oG]at h
 |_::_,_::_,[],h,_,_,_=>by simp[oG]at h
def NE(d:ad):∀{a:ar}{c b:ad},oG d a c b=true->c.length=a.length/\b.length=a.length
 |[],[],[],_=>⟨O,O⟩
 |x::a,p::c,e::b,h=>by
  simp only[oG,eZ]at h;have:=NE d h.2;simp[this.1,this.2]
 |[],[],_::_,h=>by simp[oG]at h
 |[],_::_,_,h=>by simp[oG]at h
 |_::_,[],_,h=>by simp[oG]at h
 |_::_,_::_,[],h=>by simp[oG]at h
end
section
variable{N done a:Nat}{b:Array Bool}
variable{P:Program}{T:TT}{G:ad}{n:Nat}
def xY{d:Nat}:∀{a:aD},NO d a=false->d∉(a.filterMap λ| .tmp t=>some t|_=>none)
 |[],_=>bO
 |x::r,h=>by
  cases x with
  |tmp t=>
   simp only[NO,cV]at h;have b:=xY h.2;have:t≠d:=λe=>by subst e;simp at h
   simp only[List.filterMap_cons,bo,FZ];exact⟨λe=>this e.symm,b⟩
  |const v=>simpa using xY (a:=r) (by simpa[NO]using h)
  |global g=>simpa using xY (a:=r) (by simpa[NO]using h)
  |func f=>simpa using xY (a:=r) (by simpa[NO]using h)
def ZJ(a:Array Oper)(g:Nat):PW a.toList g=(a[g]?).bind (·.dst):=by
 grind [PW,tR]
theorem NC(b:Array Oper){o:Oper}{d:Nat}(h:Tq b.toList o d=false):d∉o.looksAt b:=by
 simp only[Tq,cV]at h;unfold Oper.looksAt;rw[Z3,bU,FZ];refine⟨xY h.1,?_⟩;have a:=h.2;cases c:o.guard with
 |none=>simp
 |some p=>
  obtain⟨g,f⟩:=p;rw[c]at a;simp only at a⊢;rw[ZJ]at a;cases hd:(b[g]?).bind (·.dst)with
  |none=>simp
  |some t=>
   rw[hd]at a;simp only at a;simp only[Option.toList_some,vX];intro e;subst e;simp at a
theorem Un(c:Array Oper){x y:Oper}(h:SR c.toList x y=true):x.apart c y=true:=by
 simp only[SR,eZ]at h;obtain⟨a,j⟩:=h;unfold Oper.apart;simp only[eZ];constructor
 .cases e:x.dst with
  |none=>rfl
  |some g=>
   rw[e]at a;simp only[eZ,yg]at a⊢;refine⟨?_,?_⟩
   .grind [NC]
   .have b:=a.2;cases f:y.dst with
    |none=>simp
    |some i=>
     rw[f]at b;simp only[yg]at b;simp only[T5,ne_eq,VF];intro d;subst d;simp at b
 .grind [Bool.not_eq_true',NC]
def HO(f:ar)(a d:Nat)(o:Oper):∀{e:ar}{g:ad}{b:Nat},DX f a d o b e g=true->∀(j:Nat)(x:Oper)(p:Nat),e[j]? =some x->g[j]? =some p->
 b+j=a\/Nat.testBit p a=true\/Nat.testBit d (b+j)=true\/SR f o x=true
 |[],_,_,_,j,x,p,h,_=>by simp at h
 |_::_,[],_,_,j,x,p,_,h=>by simp at h
 |y::e,q::g,b,h,j,x,p,k,i=>by
  simp only[DX,eZ,eH]at h;obtain⟨c,m⟩:=h;cases j with
  |zero=>
   simp at k i;subst k;subst i;rcases c with((c|c)|c)|c
   .grind [Nat.eq_of_beq_eq_true]
   .grind
   .grind
   .grind
  |succ j=>
   have:=HO f a d o m j x p cB cB;have l:b+1+j=b+(j+1):=V;rw[l]at this;exact this
def Bc(d:ar)(g:ad):∀{f:ar}{e:ad}{c:Nat},JZ d g c f e=true->∀(a:Nat)(o:Oper)(b:Nat),f[a]? =some o->e[a]? =some b->
 adi o.op=false/\(P2 o.op=true\/DX d (c+a) b o 0 d g=true)
 |[],_,_,_,a,o,b,h,_=>by simp at h
 |_::_,[],_,_,a,o,b,_,h=>by simp at h
 |y::f,q::e,c,h,a,o,b,j,i=>by
  simp only[JZ,eZ,eH,yg]at h;obtain⟨⟨l,m⟩,n⟩:=h;cases a with
  |zero=>simp at j i;subst j;subst i;exact⟨l,sp m⟩
  |succ a=>
   have:=Bc d g n a o b cB cB;have k:c+1+a=c+(a+1):=V;rw[k]at this;exact this
theorem NB(p d:Nat):Nat.beq (p&&&d) p=true<->∀r,Nat.testBit p r=true->Nat.testBit d r=true:=by
 constructor
 .grind [Nat.eq_of_beq_eq_true]
 .intro h;have:p&&&d=p:=by
   apply Nat.eq_of_testBit_eq;grind [Nat.testBit]
  rw[this];simp
@[grind cases] structure CI (N done:Nat) (listed:Array Bool):Prop where
 aQ:listed.size=N
 bit:∀i,listed.getD i false=Nat.testBit done i
theorem CI.un(h:CI N done b)(c:a<N):b.getD a true=Nat.testBit done a:=by
 grind [CI.bit,Array.size,CI.aQ]
def CI.dY(h:CI N done b)(d:a<N):CI N (done|||2^a) (b.setIfInBounds a true):=by
 refine⟨by simp[h.aQ],λj=>?_⟩;have c:a<b.size:=by grind [CI.aQ]
 rw[Nat.testBit_or,Nat.testBit_two_pow];by_cases e:a=j
 .subst e;simp[c]
 .rw[getD_set_ne false e,h.bit j];simp[e]
theorem Mq(c:Array Oper){h e i:ad}(f:oG e c.toList h i=true)(l:CI c.size done b)(a:Nat):
 a∈Region.ready .any c b<->∃o p,c[a]? =some o/\h[a]? =some p/\nQ done p a=true:=by
 rw[mem_ready]
 constructor
 .rintro⟨k,o,d,m⟩
  have j:a<c.size:=(gV.1 d).1
  have g:=(pA e f a o cB).1
  refine⟨o,_,d,g,?_⟩
  grind [nQ,Bool.not_eq_true',CI.un,NB,rm,CI.bit]
 .rintro⟨o,p,d,g,m⟩
  have j:a<c.size:=(gV.1 d).1
  have k:=(pA e f a o cB).1
  grind [Option.some.injEq,nQ,Bool.not_eq_true',CI.un,CI.bit,NB,rm]
theorem Qc(done:Nat):∀{c:ar}{d:ad}{b a:Nat},a∈tS done b c d<->∃j o p,a=b+j/\c[j]? =some o/\d[j]? =some p/\nQ done p a=true
 |[],_,_,_=>by simp[tS]
 |_::_,[],_,_=>by simp[tS]
 |x::c,q::d,b,a=>by
  have h:=Qc done (c:=c) (d:=d) (b:=b+1) (a:=a);have k:(∃j o p,a=b+j/\(x::c)[j]? =some o/\(q::d)[j]? =some p/\nQ done p a=true)<->
   ((a=b/\nQ done q b=true)\/∃j o p,a=b+1+j/\c[j]? =some o/\d[j]? =some p/\nQ done p a=true):=by
   constructor
   .grind
   .rintro(⟨rfl,e⟩|⟨j,o,p,rfl,f,g,e⟩)
    .exact⟨0,x,q,O,bO,bO,e⟩
    .exact⟨j+1,o,p,V,sp f,sp g,e⟩
  grind [tS,nQ]
def Nu(done:Nat):∀{c:ar}{d:ad}{b a:Nat},Bh done b c d=some a->∃j o p,a=b+j/\c[j]? =some o/\d[j]? =some p/\nQ done p a=true/\P2 o.op=false
 |[],_,_,_,h=>by simp[Bh]at h
 |_::_,[],_,_,h=>by simp[Bh]at h
 |x::c,q::d,b,a,h=>by
  simp only[Bh]at h;cases e:(nQ done q b&&!(P2 x.op))
  .rw[e]at h;obtain⟨j,o,p,rfl,f,g,i,k⟩:=Nu done h;grind
  .rw[e]at h;simp at h;subst h;grind [Bool.not_eq_true']
def RY:∀{l:ad}{f:Nat->Prop},SN l f->∀a∈l,f a
 |[a],f,h,j,b=>by simp at b;subst b;exact h
 |a::c::r,f,h,j,b=>by
  rcases bo.1 b with rfl|b
  .exact h.1
  .exact RY h.2 j b
def QC{m b:bg}:∀{l:ao}{k:Prop},QB m b l k->k/\∀q∈l,aS b q.1 q.2=aS m q.1 q.2
 |[],k,h=>⟨h,bO⟩
 |(e,o)::r,k,h=>by
  obtain⟨c,d⟩:=QC h.2;refine⟨c,λq a=>?_⟩;rcases bo.1 a with rfl|a
  .exact h.1
  .exact d q a
def JO{a:Nat}{m d:bg}:∀{L:List (Nat×ao)}{k:Prop},Ih a m d L k->k/\∀x∈L,Nat.testBit a x.1=false->∀q∈x.2,aS d q.1 q.2=aS m q.1 q.2
 |[],k,h=>⟨h,bO⟩
 |(r,j)::L,k,h=>by
  simp only[Ih]at h;cases c:Nat.testBit a r
  .rw[c]at h;obtain⟨e,l⟩:=QC h;obtain⟨b,f⟩:=JO e;refine⟨b,λx g i=>?_⟩;grind
  .rw[c]at h;obtain⟨b,f⟩:=JO h;refine⟨b,λx g i=>?_⟩;grind
def ae7(L:List (Nat×ao))(b:List (Nat×(World->Prop))):Prop:=
 ∀x∈b,(∀w,x.2 w)\/∃(a:ao)(c:Nat×Nat->Option Value),(x.1,a)∈L/\x.2=λw=>∀q∈a,aS w.heap q.1 q.2=c q
end
section
variable{a:Program}{T:TT}{G:ad}{n:Nat}
def TV(hT:yJ a T)(hG:GOK a G)(b:Array Oper){K d:ad}(E:oG d b.toList K d=true)(af:JZ b.toList K 0 b.toList d=true)
 {ab:Exit->Act->World->Prop}(hQ:∀z e w,¬ab (.panic z) e w){w0:World}{a0:Act}:
 ∀(t done:Nat)(A:Fr)(X:bg)(L:List (Nat×ao))(r:Fr->bg->Prop)(y:List (Nat×(World->Prop)))(c:Array Bool)(e:Act)(w:World),
  sP a T G n b.toList K d t done A X L r->ae7 L y->CI b.size done c->Im (λi M=>Nat.testBit (yx d i) M) c->mD n A e->Bx n A X->w.heap=X->rT w0 w->
  o8 (Ec b.toList) a0 e->
  (∀m g f,r m f.heap->mD n m g->Bx n m f.heap->rT w0 f->o8 (Ec b.toList) a0 g->ab .normal g f)->
  zP a .any b ab (λi M=>Nat.testBit (yx d i) M) y t c e w:=by
 have C:aax .any b (λi M=>Nat.testBit (yx d i) M):=by
  intro i M o u hr;have Z:=(pA d E i o cB).2.1;grind [CG]
 have ay:=NE d E
 have ai:∀(j:Nat)(o:Oper) cs l,b[j]? =some o->o.op≠.select cs l:=by
  intro j o cs l u g;obtain⟨_,_,bj,am⟩:=pA d E j o cB;have:=(Bc _ _ af j o bj cB am).1;grind [adi]
 have ah:∀{done:Nat}{c:Array Bool},CI b.size done c->∀i,i∈Region.ready .any b c<->i∈tS done 0 b.toList K:=by
  grind [Mq,Qc]
 have ap:∀{done:Nat}{c:Array Bool},CI b.size done c->tS done 0 b.toList K=[]->Region.ready .any b c=[]:=by
  intro done c hD h;apply List.eq_nil_iff_forall_not_mem.2;grind
 intro t
 induction t with
 |zero=>
  intro done A X L r y c e w h hL hD hC hR hB hw hs hk hq
  subst hw
  simp only[sP]at h
  split at h
  .rename_i k
   exact⟨ap hD k,hq A e w h hR hB hs hk⟩
  .exact h.elim
 |succ t I=>
  intro done A X L r y c e w h hL hD hC hR hB hw hs hk hq
  subst hw
  simp only[sP]at h
  split at h
  · -- a reading is taken first
   rename_i i D
   obtain⟨j,o,aw,g,u,hp,hr,aA⟩:=Nu done D
   have:i=j:=V
   subst this
   rw[tR,u]at h
   simp only at h
   have F:b[i]? =some o:=cB
   have W:i<b.size:=(gV.1 F).1
   have aa:i∈Region.ready .any b c:=by grind [Mq]
   cases hd:wh n o.dst
   .grind
   .rw[hd]at h
    simp only[pK]at h
    have R:=Iw hd
    have U:∀Q,o.dst=some Q->Q∈Ec b.toList:=by grind [Qb,List.mem_of_getElem?]
    have ag:∀j J,b[j]? =some J->j≠i->c.getD j true=false->(∀g∈J.after,Region.binds .any g=true->g.on≠i)->o.apart b J=true:=by
     intro j J an av ax az;have au:j<b.size:=(gV.1 an).1;obtain⟨_,ar,bi,al⟩:=pA d E i o u;rcases(Bc _ _ af i o bi u al).2 with B|B
     .grind
     .have p:=(pA d E j J cB).1;have q:yx d i=bi:=by
       have:∀(k:ad)(i l:Nat),k[i]? =some l->yx k i=l:=by
        intro k;induction k with
        |nil=>intro i l h;simp at h
        |cons Y k I=>intro i l h;cases i with
         |zero=>simpa[yx]using h
         |succ i=>simpa[yx]using I i l cB
       grind
      rcases HO _ _ _ _ B j J _ cB p with g|g|g|g
      .grind
      .grind [rm]
      .grind [BE,CI.bit,CI.un]
      grind [Un]
    rcases Nl b hR hB o h with⟨H,m,ae,q,p⟩|⟨H,m,ac,q,p⟩
    .obtain⟨Y,aj,hx,hv,aq⟩:=Qt (P:=a) hT q p o ae
     let ak:World->Prop:=λf=>∀s∈YX T m o.op,aS f.heap s.1 s.2=aS w.heap s.1 s.2
     refine LD (S:=ak) C F ai (λz e w hc=>absurd hc (hQ _ _ _)) t c e w hC ag aa (v:=aj) (bC ⟨H,λf k=>aq f k⟩) (λs _=>O) ?_
     refine I _ _ _ _ r _ _ _ w hx ?_ (hD.dY W) (hC.dY C aa) (q.cG hv R) p.cG O hs (hk.J (o8.cG U)) hq
     intro N k
     rcases bo.1 k with rfl|k
     .grind [aS,List.mem_cons_self]
     .rcases hL N k with B|⟨As,z,Z,h2⟩
      .exact bC B
      .exact bR ⟨As,z,aX _ Z,h2⟩
    .refine LD (S:=λ_=>True) C F ai (λz e w hc=>absurd hc (hQ _ _ _)) t c e w hC ag aa (v:=undef) (bR ⟨H,O⟩) trivial ?_
     refine I _ _ _ _ r _ _ _ w ac ?_ (hD.dY W) (hC.dY C aa) (q.cG (x:=.un) O R) p.cG O hs (hk.J (o8.cG U)) hq
     intro N k
     rcases bo.1 k with rfl|k
     .grind
     .exact hL N k
  .split at h
   .grind [Vu]
   .rename_i rs an
    have al:=RY h
    refine Xc ?_ ?_
    .intro g
     apply an
     cases h:tS done 0 b.toList K with
     |nil=>rfl
     |cons Y J=>
      have:Y∈Region.ready .any b c:=(ah hD Y).2 cB
      rw[g]at this
      cases this
    .intro i D
     have h:=al i ((ah hD i).1 D)
     obtain⟨o,aw,F,hp,hr⟩:=(Mq b E hD i).1 D
     have u:b.toList[i]? =some o:=cB
     have W:i<b.size:=(gV.1 F).1
     rw[tR,u]at h
     simp only at h
     cases hd:wh n o.dst
     .grind
     .rw[hd]at h
      simp only[pK]at h
      have R:=Iw hd
      have U:∀Q,o.dst=some Q->Q∈Ec b.toList:=by grind [Qb,List.mem_of_getElem?]
      unfold wpOp
      simp only[F]
      rcases Nl b hR hB o h with⟨H,m,ae,q,p⟩|⟨H,m,ac,q,p⟩
      .rw[bn H]
       refine .inl (Vv hT hG q p o ae w O _ _ λax Y aj f hx ak ag hv aq=>?_)
       obtain⟨ar,au⟩:=JO hx
       refine⟨λN k av J=>?_,I _ _ _ L r y _ _ f ar hL (hD.dY W) (hC.dY C D) (ak.cG hv R) ag.cG O (hs.J aq) (hk.J (o8.cG U)) hq⟩
       rcases hL N k with B|⟨As,z,Z,h2⟩
       .exact B f
       .rw[h2]at J⊢
        intro s aa
        rw[au _ Z av s aa,J s aa]
      .rw[aW cB]
       exact⟨λN k _ J=>J,I _ _ _ L r y _ _ w ac hL (hD.dY W) (hC.dY C D) (q.cG (x:=.un) O R) p.cG O hs (hk.J (o8.cG U)) hq⟩
end
section
variable{M:ad}{a:Act}{s:Sh}{y:s.ty}
variable{P:Program}{T:TT}{G:ad}{n:Nat}
structure T8 where
 ZT:List (Nat×aw)
 aaM:List (Nat×aw)
 fR:List (Nat×ad)
def lk{α:Type}:List (Nat×α)->Nat->Option α
 |[],_=>none
 |(u,x)::r,t=>bif Nat.beq u t then some x else lk r t
def HU:Code->Option Nat
 | .region id _ _=>some id
 | .seq a b=>match HU a with
  |some i=>some i
  |none=>HU b
 | .cond _ a b=>match HU a with
  |some i=>some i
  |none=>HU b
 | .block _ c=>HU c
 | .loop c=>HU c
 | .scope c=>HU c
 |_=>none
def lkH{α:Type}(l:List (Nat×α))(c:Code):Option α:=
 match HU c with
 |some i=>lk l i
 |none=>none
def LG:aw->Type
 |[]=>bg->Prop
 |(_,s)::r=>s.ty->LG r
def SJ:aw->Type
 |[]=>bg->Nat
 |(_,s)::r=>s.ty->SJ r
def Wm:(s:Sh)->SV->Option s.ty
 | .I,.c (.i n)=>some n
 | .U k,.c (.u b n)=>if k=b then some n else none
 | .T,.c (.t b)=>some b
 | .T,.tt=>some true
 | .T,.ff=>some false
 | .S,.c (.s x)=>some x
 | .P,.c (.p b o)=>some (b,o)
 | .P,.c (.bp _ b o)=>some (b,o)
 | .Q,.c (.pp q)=>some q
 | .Q,.c (.p b o)=>some (some (b,o))
 | .Q,.c .pn=>some none
 | .F,.c (.fn f a c)=>some (f,a,c)
 | .F,.c (.fv q)=>some q
 | .M,.c (.mp b)=>some b
 |_,_=>none
def LJ:(l:aw)->LG l->Fr->bg->Prop
 |[],I,_,m=>I m
 |(t,s)::r,I,a,m=>match Wm s (kM a t)with
  |some x=>LJ r (I x) a m
  |none=>False
def SS:(l:aw)->LG l->SJ l->Fr->bg->Nat->Prop
 |[],I,μ,_,m,N=>I m/\μ m<N
 |(t,s)::r,I,μ,a,m,N=>match Wm s (kM a t)with
  |some x=>SS r (I x) (μ x) a m N
  |none=>False
def Uk:(l:aw)->LG l->Fr->(Fr->(bg->Prop)->Prop)->Prop
 |[],I,a,k=>k a I
 |(t,s)::r,I,a,k=>∀x:s.ty,Uk r (I x) ((t,.c (s.mk x))::a) k
def Ul:(l:aw)->LG l->SJ l->Fr->(Fr->(bg->Prop)->(bg->Nat)->Prop)->Prop
 |[],I,μ,a,k=>k a I μ
 |(t,s)::r,I,μ,a,k=>∀x:s.ty,Ul r (I x) (μ x) ((t,.c (s.mk x))::a) k
def rK:ad->Fr->Fr
 |[],a=>a
 |t::r,a=>(t,.jO)::rK r a
def tm:Code->ad
 | .region _ b _=>Ec b.toList
 | .seq a b=>tm a++tm b
 | .cond _ a b=>tm a++tm b
 | .block _ c=>tm c
 | .loop c=>tm c
 |_=>[]
def tX(M:ad):aw->Bool
 |[]=>true
 |(t,_)::r=>By t M&&tX M r
def eqS(x y:SV)(k:Prop):Prop:=x=y/\k
theorem nO(x:SV)(k:Prop):eqS x x k=k:=by simp[eqS]
def eO(A:T8)(c:Code):ad:=
 match lkH A.fR c with
 |some K=>K
 |none=>[]
def HP(n:Nat)(K:ad):Fr->ad
 |[]=>[]
 |(q,_)::r=>bif Nat.ble n q&&!By q K then q::HP n K r else HP n K r
def yN(n:Nat)(K:ad)(a:Fr):Fr:=rK (HP n K a) a
def eqK(a b:Fr):ad->Prop->Prop
 |[],k=>k
 |q::K,k=>eqS (kM b q) (kM a q) (eqK a b K k)
def Qr(c:Fr):Op->Option SV
 | .move x| .assign x=>match ev c x with
  | .jO=>none
  |y=>some y
 | .binOp d _ x y _=>match ev c x,ev c y with
  | .c (.i a),.c (.i b)=>match d with
   | .eql=>some (.c (.t (a==b)))
   | .neq=>some (.c (.t (a !=b)))
   | .lss=>some (.c (.t (decide (a<b))))
   | .leq=>some (.c (.t (decide (a<=b))))
   | .gtr=>some (.c (.t (decide (a>b))))
   | .geq=>some (.c (.t (decide (a>=b))))
   |_=>none
  |_,_=>none
 |_=>none
def uQ(n:Nat):ar->Fr->Option Fr
 |[],a=>some a
 |o::r,a=>bif wh n o.dst then
  match o.guard with
  |none=>match Qr a o.op with
   |some x=>uQ n r (yr a o.dst x)
   |none=>none
  |some _=>none
  else none
def orB(A:T8)(n t:Nat):Code->Fr->Option Bool
 | .region _ d false,b=>match uQ n d.toList b with
  |some a=>oL (kM a t)
  |none=>none
 | .seq (.region _ d false) (.cond (.tmp u) .skip c),b=>
  match lkH A.aaM (.cond (.tmp u) .skip c)with
  |some _=>none
  |none=>bif Nat.beq u t&&By t (tm c)then
   match uQ n d.toList b with
   |some a=>match oL (kM a t),orB A n t c a with
    |some x,some y=>some (x||y)
    |_,_=>none
   |none=>none
   else none
 |_,_=>none
def orT(A:T8)(n:Nat)(c:Operand)(a b:Code)(d:Fr):Option (Nat×Bool):=
 match c,a with
 | .tmp t,.skip=>bif By t (tm b)then
  match orB A n t b d with
  |some y=>some (t,y)
  |none=>none
  else none
 |_,_=>none
def yU(a:Fr)(c:Operand)(v:SV):Fr:=
 match c with
 | .tmp t=>(t,v)::a
 |_=>a
def pmG:ar->ad
 |[]=>[]
 |o::r=>oO o.after.toList::pmG r
def Zm:ad->ar->ad
 |a,[]=>a
 |a,o::r=>Zm (a++[sq a o.after.toList]) r
def uq:Code->Bool
 | .region _ b c=>!c||(oG (Zm [] b.toList) b.toList (pmG b.toList) (Zm [] b.toList)&&JZ b.toList (pmG b.toList) 0 b.toList (Zm [] b.toList))
 | .seq a b=>uq a&&uq b
 | .cond _ a b=>uq a&&uq b
 | .block _ c=>uq c
 | .loop c=>uq c
 |_=>true
def vc(P:Program)(T:TT)(G:ad)(n:Nat)(A:T8):Code->Fr->bg->(Exit->Fr->bg->Prop)->Prop
 | .skip,b,m,Q=>Q .normal b m
 | .region id c d,b,m,Q=>
  bif d then sP P T G n c.toList (pmG c.toList) (Zm [] c.toList) c.toList.length 0 b m [] (λb m=>Q .normal b m)
  else wy P T G n c.toList c.toList b m (λb m=>Q .normal b m)
 | .seq a f,b,m,Q=>match lkH A.aaM f with
  |none=>vc P T G n A a b m λ
   | .normal,d,c=>vc P T G n A f d c Q
   |g,d,c=>Q g d c
  |some l=>bif tX (tm a) l then∃K:LG l,(vc P T G n A a b m λ
   | .normal,d,c=>eqK b d (eO A f) (LJ l K d c)
   |g,d,c=>Q g d c)/\
   (Uk l K (rK (tm a) (yN n (eO A f) b)) λd e=>∀c,e c->vc P T G n A f d c Q)else False
 | .cond e a f,b,m,Q=>match ev b e with
  | .tt=>vc P T G n A a b m Q
  | .ff=>vc P T G n A f b m Q
  | .c (.t x)=>match orT A n e a f b with
   |some (t,y)=>Q .normal ((t,.c (.t (x||y)))::rK (tm f) b) m
   |none=>(x=true->vc P T G n A a (yU b e .tt) m Q)/\(x=false->vc P T G n A f (yU b e .ff) m Q)
  |_=>False
 | .block id e,b,m,Q=>vc P T G n A e b m λ
  | .exit i,d,c=>bif Nat.beq i id then Q .normal d c else Q (.exit i) d c
  |g,d,c=>Q g d c
 | .loop e,b,m,Q=>match lkH A.ZT e with
  |none=>False
  |some l=>bif tX (tm e) l then∃(I:LG l)(μ:SJ l),LJ l I b m/\
   (Ul l I μ (rK (tm e) (yN n (eO A e) b)) λd i μ'=>∀c,i c->vc P T G n A e d c λ
    | .normal,f,h=>eqK b f (eO A e) (SS l I μ f h (μ' c))
    |g,f,h=>Q g f h)else False
 | .exit id,b,m,Q=>Q (.exit id) b m
 | .ret,b,m,Q=>Q .ret b m
 |_,_,_,_=>False
theorem o8.aP{b:ad}{c:Act}(h:o8 M a c)(e:∀t∈M,t∈b):o8 b a c:=λt f=>h t λd=>f (e t d)
def Ge:∀(M:ad)(a:Fr)(t:Nat),(t∈M/\kM (rK M a) t=.jO)\/(t∉M/\kM (rK M a) t=kM a t)
 |[],_,_=>bR ⟨bO,O⟩
 |u::M,a,t=>by
  simp only[rK,kM];cases d:Nat.beq u t
  .have f:u≠t:=λe=>by subst e;simp at d
   rcases Ge M a t with⟨b,c⟩|⟨b,c⟩
   .grind [List.mem_cons_of_mem]
   grind
  .grind [Nat.eq_of_beq_eq_true,List.mem_cons_self]
def EJ{c:Fr}{b:Act}(f:mD n c a)(i:b.tmps.size=n)(hd:b.defers=[])(g:o8 M a b):mD n (rK M c) b:=by
 refine⟨i,hd,λt=>?_⟩;rcases Ge M c t with⟨_,h⟩|⟨d,e⟩
 .rw[h];trivial
 .rw[e,g t d];exact f.bt t
def mD.rK{b:Fr}{a:Act}(c:mD n b a):∀(M:ad),mD n (rK M b) a
 |[]=>c
 |t::M=>(mD.rK c M).jO t
def Bx.rK{a:Fr}{m:bg}(h:Bx n a m):∀(M:ad),Bx n (rK M a) m
 |[]=>h
 |t::M=>(Bx.rK h M).jO bO
theorem Sa{K:ad}{q:Nat}(c:n<=q)(b:q∉K):∀{a:Fr},q∈HP n K a\/kM a q=.jO
 |[]=>bR O
 |(u,x)::r=>by
  simp only[HP,kM];cases d:Nat.beq u q
  .rcases Sa c b (a:=r)with h|h
   .grind [Nat.ble,By,List.mem_cons_of_mem]
   .exact bR h
  .grind [Nat.eq_of_beq_eq_true,By,Me,Nat.ble,Nat.ble_eq_true_of_le]
def PL{b c:Fr}:∀{K:ad}{k:Prop},eqK b c K k->(∀q∈K,kM c q=kM b q)/\k
 |[],k,h=>⟨bO,h⟩
 |q::K,k,h=>by
  obtain⟨d,e⟩:=PL h.2;refine⟨λu a=>?_,e⟩;rcases bo.1 a with rfl|a
  .exact h.1
  .exact d u a
def Bx.eO{K:ad}{a g:Fr}{t k:bg}(h:Bx n a t)(p:Bx n g k)(v:∀q∈K,kM g q=kM a q):Bx n (Vc.rK M (yN n K a)) k:=by
 have f:∀{q b e l},oX (Vc.rK M (yN n K a)) q b e l->oX a q b e l/\oX g q b e l:=by
  intro q b e l c;have d:kM (Vc.rK M (yN n K a)) q=kM (yN n K a) q\/kM (Vc.rK M (yN n K a)) q=.jO:=by
   rcases Ge M (yN n K a) q with⟨_,h⟩|⟨_,h⟩
   .exact bR h
   .exact bC h
  unfold oX at c;rcases d with d|d
  .rw[d]at c;unfold yN at c;rcases Ge (HP n K a) a q with⟨_,i⟩|⟨j,i⟩
   .grind
   grind [Bx.NA,oX,Sa]
  .grind
 exact⟨λq b e l c=>p.bz q b e l (f c).2,λq u b e l m o s r j i=>h.V9 q u b e l m o s r (f j).1 (f i).1,λq b e l c=>h.NA q b e l (f c).1⟩
def Yv{x:SV}(h:Wm s x=some y):x.mT=true/\x.v=(s.mk y).v:=by
 unfold Wm at h;split at h<;>first|(simp at h;subst h;exact⟨rfl,rfl⟩)|skip
 .split at h
  .rename_i a;subst a;simp at h;subst h;exact⟨O,O⟩
  .simp at h
 .simp at h
def Qx{c cW:Fr}{t:Nat}(f:mD n c a)(b:mD n cW a)(h:Wm s (kM c t)=some y):mD n ((t,.c (s.mk y))::cW) a:=by
 refine⟨b.aQ,b.nN,λu=>?_⟩;simp only[kM];cases g:Nat.beq t u
 .exact b.bt u
 .have:=gB g;subst this;have d:=f.bt t;obtain⟨i,j⟩:=Yv h;have e:=d.eq i;show _=_;rw[e,j];rfl
def Y4:(l:aw)->LG l->SJ l->Fr->Fr->(bg->Prop)->(bg->Nat)->Prop
 |[],I,μ,b,c,a,μ'=>c=b/\a=I/\μ'=μ
 |(t,s)::r,I,μ,b,c,a,μ'=>∃x:s.ty,Y4 r (I x) (μ x) ((t,.c (s.mk x))::b) c a μ'
def RZ:∀{l:aw}{I:LG l}{μ:SJ l}{b:Fr}{k:Fr->(bg->Prop)->(bg->Nat)->Prop},Ul l I μ b k->∀{fr' I' μ'},Y4 l I μ b fr' I' μ'->k fr' I' μ'
 |[],_,_,_,_,h,_,_,_,a=>by obtain⟨rfl,rfl,rfl⟩:=a;exact h
 |(t,s)::r,_,_,_,_,h,_,_,_,a=>by obtain⟨x,a⟩:=a;exact RZ (h x) a
def Sh.ZW(s:Sh)(x:s.ty)(b e:Nat)(l:ae):SV.c (s.mk x)≠.box b e l/\SV.c (s.mk x)≠.DZ b e l:=⟨bO,bO⟩
def R9{a:Act}{f:Fr}(g:mD n f a):∀{l:aw}{I:LG l}{μ:SJ l}{cW:Fr}{m:bg}{N:Nat},mD n cW a->Bx n cW m->SS l I μ f m N->
 ∃b c μ',Y4 l I μ cW b c μ'/\mD n b a/\Bx n b m/\c m/\μ' m<N
 |[],I,μ,cW,_,_,e,d,h=>⟨cW,I,μ,⟨O,O,O⟩,e,d,h.1,h.2⟩
 |(t,s)::r,I,μ,cW,m,N,e,d,h=>by
  simp only[SS]at h;split at h
  .rename_i x p;obtain⟨b,c,μ',i,j,k,o⟩:=R9 g (Qx g e p) (d.jO (s.ZW x)) h;exact⟨b,c,μ',⟨x,i⟩,j,k,o⟩
  .exact h.elim
def R8{a:Act}{f:Fr}(g:mD n f a):∀{l:aw}{I:LG l}{μ:SJ l}{cW:Fr}{m:bg},mD n cW a->Bx n cW m->LJ l I f m->
 ∃b c μ',Y4 l I μ cW b c μ'/\mD n b a/\Bx n b m/\c m
 |[],I,μ,cW,_,e,d,h=>⟨cW,I,μ,⟨O,O,O⟩,e,d,h⟩
 |(t,s)::r,I,μ,cW,m,e,d,h=>by
  simp only[LJ]at h;split at h
  .rename_i x o;obtain⟨b,c,μ',i,j,k⟩:=R8 g (Qx g e o) (d.jO (s.ZW x)) h;exact⟨b,c,μ',⟨x,i⟩,j,k⟩
  .exact h.elim
def Uo{a:Act}{g:Fr}(i:mD n g a):∀{l:aw}{I:LG l}{cW:Fr}{m:bg}{k:Fr->(bg->Prop)->Prop},mD n cW a->Bx n cW m->LJ l I g m->Uk l I cW k->
 ∃b f,k b f/\mD n b a/\Bx n b m/\f m
 |[],I,cW,_,_,d,c,h,e=>⟨cW,I,e,d,c,h⟩
 |(t,s)::r,I,cW,m,k,d,c,h,e=>by
  simp only[LJ]at h;split at h
  .rename_i x j;exact Uo i (Qx i d j) (c.jO (s.ZW x)) h (e x)
  .exact h.elim
def YT{d:Code}{Q:Exit->Act->World->Prop}(b:Nat->Act->World->Prop)
 (f:∀N a w,b N a w->d.wp P (Exit.then (λe g=>∃c,c<N/\b c e g) Q) a w):∀N a w,b N a w->(Code.loop d).wp P Q a w:=by
 have g:∀N a w,b N a w->∃M,b M a w/\∀c,c<M->¬b c a w:=by
  intro N;induction N using Nat.strongRecOn with
  |_ N i=>
   intro a w h;by_cases e:∃c,c<N/\b c a w
   .grind
   .grind
 intro N a w e
 classical
 let μ:Act->World->Nat:=λa w=>if h:∃M,b M a w/\∀c,c<M->¬b c a w then Classical.choose h else 0
 have hμ:∀a w N,b N a w->b (μ a w) a w/\μ a w<=N:=by
  grind [Classical.choose,Classical.choose_spec,Nat.lt_or_ge]
 refine wp_loop (λa w=>∃N,b N a w) μ ⟨N,e⟩ ?_
 rintro a w ⟨N,h⟩
 refine mz ?_ (f (μ a w) a w (hμ a w N h).1)
 grind [Nat.lt_of_le_of_lt]
end
section
variable{i w:World}{j p:ad}{l a:Act}{f:Exit->Fr->bg->Prop}{e:Exit}{b:bg}
variable{g:Program}{h:TT}{G:ad}{d:Nat}{o:T8}
def mR(d:Nat)(i:World)(j:ad)(l:Act)(f:Exit->Fr->bg->Prop):Exit->Act->World->Prop
 | .panic _,_,_=>False
 | .outgrown,_,_=>False
 |e,a,w=>∃b,mD d b a/\Bx d b w.heap/\rT i w/\o8 j l a/\f e b w.heap
theorem mR.mk{b:Fr}(g:(∀c,e≠.panic c)/\e≠.outgrown)
 (k:mD d b a)(h:Bx d b w.heap)(o:rT i w)(m:o8 j l a)(n:f e b w.heap):mR d i j l f e a w:=by
 cases e with
 |panic c=>exact absurd O (g.1 c)
 |outgrown=>exact absurd O g.2
 |_=>exact⟨b,k,h,o,m,n⟩
theorem mR.cy(h:mR d i j l f e a w):
 ((∀c,e≠.panic c)/\e≠.outgrown)/\∃b,mD d b a/\Bx d b w.heap/\rT i w/\o8 j l a/\f e b w.heap:=by
 cases e with
 |panic c=>exact h.elim
 |outgrown=>exact h.elim
 |_=>exact⟨⟨bO,bO⟩,h⟩
def mR.ZS(h:mR d i j l f e a w):mR d i (j++p) l f e a w:=by
 grind [mR.cy,mR.mk,o8.aP,List.mem_append_left]
def mR.XR(h:mR d i j l f e a w):mR d i (p++j) l f e a w:=by
 grind [mR.cy,mR.mk,o8.aP,List.mem_append_right]
def YG{f:Fr}{e:Op}{x:SV}{k:SV->Prop}(c:Qr f e=some x)(d:k x):P2 e=false/\rd h f b k e:=by
 unfold Qr at c;split at c
 .split at c
  .simp at c
  .simp at c;subst c;exact⟨O,d⟩
 .split at c
  .simp at c
  .simp at c;subst c;exact⟨O,d⟩
 .rename_i o t y z l;split at c
  .rename_i a j g i;refine⟨O,?_⟩;simp only[rd,g,i];split at c<;>simp at c<;>subst c<;>exact d
  .simp at c
 .simp at c
theorem IU(j:ar){b:bg}{i:Fr->bg->Prop}:∀{n:ar}{c e:Fr},uQ d n c=some e->i e b->wy g h G d j n c b i
 |[],c,e,a,f=>by simp[uQ]at a;subst a;exact f
 |o::r,c,e,a,f=>by
  simp only[uQ]at a;simp only[wy];cases hd:wh d o.dst
  .grind
  .rw[hd]at a;simp only[pK]at a⊢;cases l:o.guard with
   |some p=>rw[l]at a;simp at a
   |none=>
    rw[l]at a;simp only[gd]at a⊢;split at a
    .rename_i x p;obtain⟨q,s⟩:=YG (h:=h) (b:=b) (k:=λx=>wy g h G d j r (yr c o.dst x) b i) p (IU j a f);grind
    .simp at a
def Z4(p:Nat){b:bg}{f:Exit->Fr->bg->Prop}:∀(k:Code)(l:Fr)(y:Bool),orB o d p k l=some y->(∀i,oL (kM i p)=some y->f .normal i b)->vc g h G d o k l b f
 | .region id z e,l,y,a,n=>by
  cases e
  .grind [orB,vc,IU]
  .simp[orB]at a
 | .seq (.region id z false) (.cond (.tmp u) .skip k),l,y,a,n=>by
  simp only[orB]at a;split at a
  .simp at a
  .rename_i s;cases m:(Nat.beq u p&&By p (tm k))
   .grind
   .rw[m]at a;simp only[pK]at a;simp only[eZ]at m;have x:=gB m.1;subst x;split at a
    .rename_i i w;split at a
     .rename_i C A e q;simp at a;subst a;rw[vc,s];simp only;rw[vc];simp only[zQ];refine IU _ w ?_;rw[vc];have v:ev i (.tmp u)=(kM i u).nb:=rfl;rw[v];cases j:kM i u with
      |tt=>
       rw[j]at e;simp[oL]at e;subst e;simp only[SV.nb,vc];exact n i (by rw[j];simp[oL])
      |ff=>
       rw[j]at e;simp[oL]at e;subst e;simp only[SV.nb];exact Z4 u k i A q (λr B=>n r cB)
      |c r=>
       cases r with
       |t B=>
        rw[j]at e;simp[oL]at e;subst e;simp only[SV.nb,orT,m.2,pK,q];exact n _ (by simp[kM,oL])
       |_=>rw[j]at e;simp[oL]at e
      |_=>rw[j]at e;simp[oL]at e
     .simp at a
    .simp at a
def aal(hT:yJ g h)(hG:GOK g G)(aq:g.follows .mixedOrders=true)(i:World):∀(C:Code),uq C=true->∀(l:Fr)(b:bg)(f:Exit->Fr->bg->Prop)(a:Act)(w:World),
 vc g h G d o C l b f->mD d l a->Bx d l b->w.heap=b->rT i w->C.wp g (mR d i (tm C) a f) a w:=by
 intro C
 induction C with
 |skip=>
  intro hd l b f a w c k s x t
  subst x
  exact wp_skip ⟨l,k,s,t,o8.cU _ _,c⟩
 |region id p y=>
  intro hd l b f a w c k s x t
  simp only[vc]at c
  cases y
  .simp only[zQ]at c
   refine wp_region_list ?_
   exact zi hT hG p p.toList l b (f .normal) a w (λ_ c=>c) c k s x t (o8.cU _ _) λz F N j r v u q=>⟨z,r,v,u,q,j⟩
  .simp only[pK]at c
   simp only[uq,abm,abl,eZ]at hd
   refine wp_region_any aq (Q8 (e:=λD B=>Nat.testBit (yx (Zm [] p.toList) D) B) (L:=[]) _ _ _ _ ?_)
   have E:p.toList.length=p.size:=bO
   rw[E]at c
   refine TV hT hG p hd.1 hd.2 (λC a w Z=>Z) p.size 0 l b [] (f .normal) [] _ a _ c (λB Z=>by cases Z) ⟨bO,λD=>by simp[abk];split<;>rfl⟩ (λD X=>by simp[abk]at X;split at X<;>simp at X) k s x ⟨t.os,t.Xa,t.Qn⟩ (o8.cU _ _) λz F N j r v u q=>⟨z,r,v,u,q,j⟩
 |seq B R Y S=>
  intro hd l b f a w c k s x t
  simp only[vc]at c
  simp only[uq,eZ]at hd
  refine wp_seq ?_
  split at c
  .refine mz ?_ (Y hd.1 l b _ a w c k s x t)
   intro e F N j
   obtain⟨p,z,r,v,u,y,j⟩:=j.cy
   cases e with
   |normal=>
    refine mz ?_ (S hd.2 z _ f F N j r v O u)
    intro e V ad j
    obtain⟨p,W,I,H,U,J,j⟩:=j.cy
    exact mR.mk p I H U ((y.aP (λE q=>dN _ q)).J (J.aP (λE q=>mW _ q))) j
   |panic C=>exact absurd O (p.1 C)
   |outgrown=>exact absurd O p.2
   |exit D=>exact mR.mk p r v u (y.aP (λE q=>dN _ q)) j
   |goto D=>exact mR.mk p r v u (y.aP (λE q=>dN _ q)) j
   |ret=>exact mR.mk p r v u (y.aP (λE q=>dN _ q)) j
  .rename_i K hl
   cases ab:tX (tm B) K
   .grind
   rw[ab]at c
   obtain⟨af,h1,h2⟩:=c
   refine mz ?_ (Y hd.1 l b _ a w h1 k s x t)
   intro e F N j
   obtain⟨p,z,r,v,u,y,j⟩:=j.cy
   cases e with
   |normal=>
    obtain⟨aa,j⟩:=PL j
    obtain⟨ae,K',h3,h4,ac,h5⟩:=Uo r (EJ (k.rK _) r.aQ r.nN y) (Bx.eO s v aa) j h2
    refine mz ?_ (S hd.2 ae _ f F N (h3 _ h5) h4 ac O u)
    intro e V ad j
    obtain⟨p,W,I,H,U,J,j⟩:=j.cy
    exact mR.mk p I H U ((y.aP (λE q=>dN _ q)).J (J.aP (λE q=>mW _ q))) j
   |panic C=>exact absurd O (p.1 C)
   |outgrown=>exact absurd O p.2
   |exit D=>exact mR.mk p r v u (y.aP (λE q=>dN _ q)) j
   |goto D=>exact mR.mk p r v u (y.aP (λE q=>dN _ q)) j
   |ret=>exact mR.mk p r v u (y.aP (λE q=>dN _ q)) j
 |cond ac B R Y S=>
  intro hd l b f a w c k s x t
  simp only[vc]at c
  simp only[uq,eZ]at hd
  have af:∀{I:Bool},a.eval ac=.bool I->mD d (yU l ac (if I then .tt else .ff)) a:=by
   intro I H;unfold yU;split
   .rename_i E;refine⟨k.aQ,k.nN,λad=>?_⟩;simp only[kM];cases J:Nat.beq E ad
    .exact k.bt ad
    .have:=gB J;subst this;cases I<;>exact H
   .exact k
  have ag:∀{B:SV},(∀I e K,B≠.box I e K/\B≠.DZ I e K)->Bx d (yU l ac B) b:=by
   intro B Z;unfold yU;grind [Bx.jO]
  split at c
  .rename_i V
   exact wp_cond_true (k.eq V O) (mz (λ_ _ _ c=>c.ZS) (Y hd.1 l b f a w c k s x t))
  .rename_i V
   exact wp_cond_false (k.eq V O) (mz (λ_ _ _ c=>c.XR) (S hd.2 l b f a w c k s x t))
  .rename_i I V
   have W:=k.eq V O
   split at c
   .rename_i E y' J
    unfold orT at J
    split at J
    .rename_i U
     cases ai:By U (tm R)
     .grind
     .rw[ai]at J
      simp only[pK]at J
      split at J
      .rename_i y0 aj
       simp at J
       obtain⟨rfl,rfl⟩:=J
       have al:a.tmps.getD U undef=.bool I:=W
       refine wp_cond_split W (λq=>?_) (λq=>?_)
       .subst x
        subst q
        refine wp_skip (mR.mk (e:=.normal) (b:=(U,.c (.t (true||y0)))::rK (tm R) l) ⟨bO,bO⟩ ?_ ((s.rK _).jO bO) t (o8.cU _ _) c)
        have H:=EJ (M:=tm R) k k.aQ k.nN (o8.cU _ a)
        constructor<;>grind [mD.aQ,mD.nN,kM,Nat.beq,mD.bt,Nat.eq_of_beq_eq_true,SV.Is,SV.v,Ce.v]
       .subst q
        have hv:=Z4 (g:=g) (h:=h) (G:=G) (o:=o) (d:=d) U (b:=b) (f:=λe z m'=>e=.normal/\m'=b/\oL (kM z U)=some y0) R l y0 aj (λz h'=>⟨O,O,h'⟩)
        refine mz ?_ (S hd.2 l b _ a w hv k s x t)
        intro e F N j
        obtain⟨p,z,r,v,u,y,rfl,ah,ak⟩:=j.cy
        refine mR.mk (e:=.normal) (b:=(U,.c (.t (false||y0)))::rK (tm R) l) p ?_ (by rw[ah];exact(s.rK _).jO bO) u (y.aP (λE q=>mW _ q)) cB
        have H:=EJ k r.aQ r.nN y
        refine⟨H.aQ,H.nN,λad=>?_⟩
        simp only[kM]
        grind [Nat.beq,mD.bt,Nat.eq_of_beq_eq_true,Bd,SV.Is.eq,SV.Is,SV.v,Ce.v]
      .simp at J
    .simp at J
   .refine wp_cond_split W (λq=>?_) (λq=>?_)
    .subst q
     exact mz (λ_ _ _ c=>c.ZS) (Y hd.1 _ b f a w (c.1 O) (af W) (ag bO) x t)
    .subst q
     exact mz (λ_ _ _ c=>c.XR) (S hd.2 _ b f a w (c.2 O) (af W) (ag bO) x t)
  .exact c.elim
 |block id B S=>
  intro hd l b f a w c k s x t
  simp only[vc]at c
  refine wp_block (mz ?_ (S hd l b _ a w c k s x t))
  intro e F N j
  obtain⟨p,z,r,v,u,y,j⟩:=j.cy
  cases e with
  |exit D=>
   simp only[Exit.inBlock]
   simp only at j
   cases H:Nat.beq D id
   .rw[H]at j
    have q:D≠id:=λe=>by subst e;simp at H
    rw[aW q]
    exact mR.mk p r v u y j
   .rw[H]at j
    rw[bn (gB H)]
    exact mR.mk ⟨bO,bO⟩ r v u y j
  |normal=>exact mR.mk p r v u y j
  |panic C=>exact absurd O (p.1 C)
  |outgrown=>exact absurd O p.2
  |goto D=>exact mR.mk p r v u y j
  |ret=>exact mR.mk p r v u y j
 |loop B S=>
  intro hd l b f a w c k s x t
  subst x
  simp only[vc]at c
  split at c
  .exact c.elim
  .rename_i K hl
   cases ab:tX (tm B) K
   .grind
   rw[ab]at c
   obtain⟨V,μ,h0,h1⟩:=c
   let Z:Nat->Act->World->Prop:=λU F w=>∃z J μ',Y4 K V μ (rK (tm B) (yN d (eO o B) l)) z J μ'/\mD d z F/\Bx d z w.heap/\J w.heap/\μ' w.heap=U/\rT i w/\o8 (tm B) a F
   obtain⟨ac,W,μ1,an,ak,af,ai⟩:=R8 k (EJ (k.rK _) k.aQ k.nN (o8.cU (tm B) a)) (Bx.eO s s (λ_ _=>O)) h0
   refine YT Z ?_ (μ1 w.heap) a w ⟨ac,W,μ1,an,ak,af,ai,O,t,o8.cU _ _⟩
   rintro U a1 w ⟨z,J,μ',X,r,v,ah,rfl,u,y⟩
   have am:=RZ h1 X w.heap ah
   refine mz ?_ (S hd z w.heap _ a1 w am r v O u)
   intro e F N j
   obtain⟨p,ae,q,H,I,E,j⟩:=j.cy
   cases e with
   |normal=>
    obtain⟨aa,j⟩:=PL j
    obtain⟨ad,Y,μ3,ao,al,ag,aj,ap⟩:=R9 q (EJ (k.rK _) q.aQ q.nN (y.J E)) (Bx.eO s H aa) j
    exact⟨_,ap,ad,Y,μ3,ao,al,ag,aj,O,I,y.J E⟩
   |panic C=>exact absurd O (p.1 C)
   |outgrown=>exact absurd O p.2
   |exit D=>exact mR.mk p q H I (y.J E) j
   |goto D=>exact mR.mk p q H I (y.J E) j
   |ret=>exact mR.mk p q H I (y.J E) j
 |exit id=>
  intro hd l b f a w c k s x t
  subst x
  exact wp_exit ⟨l,k,s,t,o8.cU _ _,c⟩
 |ret=>
  intro hd l b f a w c k s x t
  subst x
  exact wp_ret ⟨l,k,s,t,o8.cU _ _,c⟩
 |rangeFunc j k B R _ _=>intro _ l b f a w c;exact c.elim
 |scope B _=>intro _ l b f a w c;exact c.elim
 |label K=>intro _ l b f a w c;exact c.elim
 |goto K=>intro _ l b f a w c;exact c.elim
 |refuse s=>intro _ l b f a w c;exact c.elim
def yM:Nat->aB->Fr
 |_,[]=>[]
 |i,x::r=>(i,x)::yM (i+1) r
def KK(h:TT)(a:Fr)(b:bg):ay->(aB->Prop)->Prop
 |[],k=>k []
 | .tmp t::r,k=>bif (kM a t).mT then KK h a b r λl=>k (kM a t::l)else False
 | .cell p t::r,k=>rd h a b (λx=>bif x.mT then KK h a b r λl=>k (x::l)else False) (.load t (.tmp p))
def adh(h:TT)(c:ay)(a:Fr)(b:bg)(R:aj):Prop:=
 KK h a b c λ
  |[x]=>R x.v b
  |l=>R (.tuple (l.map SV.v).toArray) b
def YR(g:Program)(h:TT)(G:ad)(o:T8)(d:Nat)(c:ay)(f:Code)(e:aB)(b:bg)(R:aj):Prop:=
 vc g h G d o f (yM 0 e) b λ
  | .normal,a,b=>adh h c a b R
  | .ret,a,b=>adh h c a b R
  |_,_,_=>False
def LN:∀(a:aB)(i t:Nat),(t<i/\kM (yM i a) t=.jO)\/(i<=t/\kM (yM i a) t=a.getD (t -i) .jO)
 |[],i,t=>by
  grind [Nat.lt_or_ge,yM,kM]
 |x::r,i,t=>by
  simp only[yM,kM];cases d:Nat.beq i t
  .have f:i≠t:=λe=>by subst e;simp at d
   rcases LN r (i+1) t with⟨b,c⟩|⟨b,c⟩
   .grind
   grind [List.getD_cons_succ]
  .grind [Nat.eq_of_beq_eq_true]
def Qy(a:Array Value):ResultVar->Sem Value
 | .tmp t=>pure (a.getD t undef)
 | .cell p t=>do loadVar t (<-asAddr (a.getD p undef))
def WI(b:Func)(c:Array Value):results b c=(do
 let a<-b.results.mapM (Qy c)
 pure (if h:a.size=1 then a[0]else .tuple a)):=by
 unfold results
 congr 2
def Mr{i:Fr}{a:Act}(r:yJ g h)(f:mD d i a):∀(A:ay)(k:aB->Prop)(w:World),Bx d i w.heap->KK h i w.heap A k->
 ∃n,k n/\(A.mapM (Qy a.tmps)).run g w=.ok (n.map SV.v) w
 |[],k,w,_,b=>⟨[],b,bO⟩
 | .tmp t::u,k,w,j,b=>by
  simp only[KK]at b;cases c:(kM i t).mT
  .grind
  .rw[c]at b;obtain⟨n,q,D⟩:=Mr r f u _ w j b;refine⟨_,q,?_⟩;have y:=(f.bt t).eq c;have C:Qy a.tmps (.tmp t)=pure (a.tmps.getD t undef):=rfl;grind [Go.Sem.run_bind,Go.Sem.run_pure,Go.Result.andThen_ok]
 | .cell p t::u,k,w,j,m=>by
  obtain⟨H,B,z,y,b⟩:=Qt r f j ⟨none,.load t (.tmp p),0,"",#[],none⟩ m;have b:=b w (λx _=>O);cases v:H.mT
  .grind
  rw[v]at z;obtain⟨n,q,D⟩:=Mr r f u _ w j z;refine⟨_,q,?_⟩;have F:∃c o,a.tmps.getD p undef=.pointer (some ⟨c,o,none⟩):=by
   have l:=SV.ZZ (f.bt p);simp only[KK,rd,ev]at m;split at m
   .rename_i c o s;rw[s]at l;exact⟨c,o,l⟩
   .rename_i x c o s;rw[s]at l;exact⟨c,o,l⟩
   .exact m.elim
  obtain⟨c,o,s⟩:=F;simp only[execOp,Instr.loadAt,Act.eval,s,Instr.sureAddr,ez,iK,dt]at b;have E:(loadVar t ⟨c,o,none⟩).run g w=.ok B w:=by
   cases x:(loadVar t ⟨c,o,none⟩).run g w with
   |ok I G=>
    rw[x]at b;simp at b;rw[b.1,b.2]
   |halt e G=>rw[x]at b;simp at b
  have G:=y.eq v;have C:(Qy a.tmps (.cell p t)).run g w=.ok B w:=by
   simp only[Qy,s,ez,asAddr,iK,dt,E]
  grind [Go.Sem.run_bind,Go.Sem.run_pure,Go.Result.andThen_ok]
def yf(z:yJ g h)(J:GOK g G)(N:g.follows .mixedOrders=true){y:FuncId}{i:Func}{m:Code}{r:ay}{a:aB}{R:aj}
 (M:g.funcs[y]? =some i)(L:i.body=some m)(P:i.ntmps=d)(S:i.results=r.toArray)(A:a.all SV.mT=true)(X:a.length<=d)(hd:uq m=true)
 (j:YR g h G o d r m a b R):bK g y (a.map SV.v) b R:=by
 intro w U
 refine calls_of_wp M L ?_
 have K:mD d (yM 0 a) {tmps:=(a.map SV.v).toArray++Array.replicate (i.ntmps -(a.map SV.v).toArray.size) undef,defers:=[]}:=by
  refine⟨by simp[P];omega,O,λt=>?_⟩;rcases LN a 0 t with⟨n,_⟩|⟨_,p⟩
  .omega
  .rw[p,Nat.sub_zero];rcases dJ t a.length with k|s
   .have u:(a[t]).mT=true:=LF.1 A _ (List.getElem_mem k);have c:a.getD t .jO=a[t]:=by simp[k]
    rw[c];have f:((a.map SV.v).toArray++Array.replicate (i.ntmps -(a.map SV.v).toArray.size) undef).getD t undef=(a[t]).v:=by
     simp[Array.getElem?_append,k]
    rw[f];exact rj
   .have c:a.getD t .jO=.jO:=by simp[jE s]
    rw[c];trivial
 have v:∀{q x e l},¬oX (yM 0 a) q x e l:=by
  intro q x e l f;rcases LN a 0 q with⟨n,_⟩|⟨_,p⟩
  .omega
  .unfold oX at f;rw[p,Nat.sub_zero]at f;rcases dJ q a.length with k|s
   .have u:(a[q]).mT=true:=LF.1 A _ (List.getElem_mem k);have c:a.getD q .jO=a[q]:=by simp[k]
    rw[c]at f;rcases f with f|f<;>rw[f]at u<;>simp[SV.mT]at u
   .have c:a.getD q .jO=.jO:=by simp[jE s]
    rw[c]at f;simp at f
 have H:Bx d (yM 0 a) b:=⟨λ_ _ _ _ j=>absurd j v,λ_ _ _ _ _ _ _ _ _ j=>absurd j v,λ_ _ _ _ j=>absurd j v⟩
 refine mz ?_ (aal z J N w m hd _ b _ _ w j K H U (rT.cU w))
 intro e s k c
 obtain⟨B,F,u,I,T,W,c⟩:=c.cy
 have C:∀(c:adh h r F k.heap R),s.defers=[]/\∃D,(results i s.tmps).run g k=.ok D k/\∃E,Ending.returned D=.returned E/\rT w k/\R E k.heap:=by
  intro c;refine⟨u.nN,?_⟩;obtain⟨l,n,p⟩:=Mr z u r _ k I c;have Q:(results i s.tmps).run g k=.ok (if j:(l.map SV.v).toArray.size=1 then(l.map SV.v).toArray[0]else .tuple (l.map SV.v).toArray) k:=by
   rw[WI,S,aau];simp only[ez,Sem.run_map];rw[p];rfl
  refine⟨_,Q,_,O,T,?_⟩;cases l with
  |nil=>exact n
  |cons V l=>cases l with
   |nil=>exact n
   |cons Y l=>exact n
 cases e with
 |normal=>exact C c
 |ret=>exact C c
 |exit V=>exact c.elim
 |goto V=>exact c.elim
 |panic m=>exact absurd O (B.1 m)
 |outgrown=>exact absurd O B.2
end
abbrev vi(n:Int):Value:=.int .i64 n
abbrev vb(b:Bool):Value:=.bool b
abbrev vp(b o:Nat):Value:=.pointer (some ⟨b,o,none⟩)
def Pz(f:Func):Code:=
 match f.body with
 |some c=>c
 |none=>.skip
section
variable{m a c e:bg}{b k f n:Nat}{o:Obj}{v:Value}{l:ae}{s:E}{x:Int}{p:Prop}{P:Program}{d:ap}{K:aj}
@[grind cases] structure D (m m':bg):Prop where
 aQ:m.size<=m'.size
 bG:∀b,b<m.size->m'[b]? =m[b]?
theorem D.cU(m:bg):D m m:=by constructor<;>grind
def cY:D m m:=D.cU m
theorem D.J{b c:bg}(h:D a b)(k:D b c):D a c:=
 by constructor<;>grind [D.aQ,D.bG]
theorem D.push(m:bg)(o:Obj):D m (m.push o):=
 by constructor<;>grind
theorem D.bZ(h:D a m)(o:Obj):D a (m.push o):=h.J (D.push m o)
theorem D.aV(h:D a m)(c:a.size<=b)(o:Nat)(l:ae):D a (aV m b o l):=
 by constructor<;>grind [bD,D.aQ,cq,D.bG]
theorem D.aS(h:D m c){o:Nat}(a:aS m b o=some v):aS c b o=some v:=by
 grind [bE,D.bG,rV]
theorem D.kZ(h:D m c){o:Nat}(e:jG m b o l):jG c b o l:=λi a d=>h.aS (e i a d)
theorem dF.ext(h:D m c){e:Nat}(a:dF m b e l):dF c b e l:=by
 grind [dF,D.bG,Array.getElem?_eq_some_iff]
@[grind cases] structure fX {α:Type} (m:bg) (sz:Nat) (R:ae->α->Prop) (s:E) (l:List α):Prop where
 aT:s.len=l.length
 ms:s.len<=s.cap
 kK:s.len<=9223372036854775807
 kZ:∀(k:Nat)(x:α),l[k]? =some x->∃cs,R cs x/\jG m s.bz (s.off+k*sz) cs
def fX.aP{α:Type}{d:Nat}{R a:ae->α->Prop}{l:List α}(h:fX m d R s l)(f:D m c)(e:∀b x,R b x->a b x):fX c d a s l:=
 by constructor<;>grind [fX.aT,fX.ms,fX.kK,fX.kZ,D.kZ]
def aaA(a:ae)(n:Int):Prop:=a=[.i n]
abbrev ba(m:bg)(s:E)(l:ab):Prop:=fX m 1 aaA s l
theorem ba.bt{l:ab}(h:ba m s l)(a:l[k]? =some x):aS m s.bz (s.off+k*1)=some (vi x):=by
 obtain⟨c,rfl,b⟩:=h.kZ k x a;exact b 0 (.i x) O
theorem ba.ext(a:D m c){l:ab}(h:ba m s l):ba c s l:=h.aP a λ_ _ h=>h
def px(a:bg)(h:a=m.push o:=by rfl):D m a:=h▸(D.cU m).bZ o
def pz(a:bg)(h:a=m.push o:=by rfl):a.size=m.size+1:=by rw[h];simp
def pu(a:bg)(h:a=m.push o:=by rfl):D m a/\a.size=m.size+1:=⟨px a h,pz a h⟩
def py(a:bg)(h:a=aV (m.push o) m.size 0 l:=by rfl):D m a:=h▸((D.cU m).bZ o).aV bY _ _
def pv(a:bg)(h:a=aV (m.push o) m.size 0 l:=by rfl):D m a/\a.size=m.size+1:=⟨py a h,by rw[h,bD];simp⟩
theorem gD{α:Type}{l:List α}(h:k<l.length):∃x,l[k]? =some x:=⟨l[k],by simp[h]⟩
theorem dV{α:Type}(l:List α)(k:Nat)(h:k<l.length:=by omega):∃x,l[k]? =some x:=gD h
theorem iz(h: -9223372036854775808<=x:=by omega)(k:x<=9223372036854775807:=by omega):eJ x=x:=de h k
def dR:(∀(b:Nat)(k:Prop),OZ b b k=k)/\∀(x:SV)(k:Prop),eqS x x k=k:=⟨kL,nO⟩
def oh{a:Prop}(x:a)(h:a->p:=by omega):p:=h x
def VI{a b:Prop}(x:a)(y:b)(h:a->b->p:=by omega):p:=h x y
def sx{a:Prop}(h:a=False:=by simp)(x:a):p:=(h▸x:False).elim
theorem br{α:Type}{l:List α}{x:α}(h:l[k]? =some x):k<l.length:=by grind [List.all]
theorem bX{α:Type}{l:List α}{x:α}(h:l[k]? =some x):l.take (k+1)=l.take k++[x]:=by
 rw[List.take_add_one,h];rfl
theorem eQ{α:Type}{l:List α}(h:l.length<=k):l.take k=l:=rO h
def DO(P:Program)(f:Nat)(d:ap)(m:bg)(v:Value):Prop:=bK P f d m λa c=>a=v/\D m c
theorem DO.cg(h:DO P f d m v)(b:∀c,D m c->K v c):bK P f d m K:=
 h.aP λ_ _⟨a,e⟩=>a▸b _ e
def Pf(h:k<9223372036854775807):eJ ((k:Int)+1)=((k+1:Nat):Int):=by rw[de V V];rfl
theorem E.LC{t:E}:s.v=t.v<->s=t:=by
 refine⟨λh=>?_,λh=>h▸O⟩;cases s<;>cases t<;>simp_all [E.v]
theorem D.eV(h:D m c){l:ad}(d:∀b∈l,b<m.size):gS l m c:=λb a=>h.bG b (d b a)
theorem D.lt(h:D m c)(a:b<m.size):b<c.size:=cB
def D.da(h:D m c){o:Nat}(a:Vc.aS m b o=some v):Vc.aS c b o=Vc.aS m b o:=by rw[h.aS a,a]
theorem nt(h:k<n)(a:n<=9223372036854775807):eJ ((k:Int)+1)=((k+1:Nat):Int):=by rw[de V V];rfl
theorem Qe(h:k<n):((n:Int) -((k+1:Nat):Int)).toNat<((n:Int) -(k:Int)).toNat:=V
def gP(g:n<=9223372036854775807){b:(Int->bg->Prop)->(Int->bg->Nat)->Int->bg->Prop}(Q:Nat->bg->Prop)(d:Q 0 m)
 (h:∀(k:Nat)(a:bg)(I:Int->bg->Prop)(μ:Int->bg->Nat),k<=n->Q k a->
  (k<n->∀c,Q (k+1) c->I (eJ ((k:Int)+1)) c/\μ (eJ ((k:Int)+1)) c<μ k a)->b I μ k a):
 ∃(I:Int->bg->Prop)(μ:Int->bg->Nat),I 0 m/\∀i a,I i a->b I μ i a:=by
 refine⟨λi c=>∃k:Nat,i=k/\k<=n/\Q k c,λi _=>(n -i).toNat,⟨0,O,iD _,d⟩,?_⟩
 rintro i a ⟨k,rfl,e,j⟩
 refine h k a _ _ e j λf c l=>?_
 rw[nt f g]
 grind
def gL{σ:Type}(l:n<=9223372036854775807){e:σ}{d:(σ->Int->bg->Prop)->(σ->Int->bg->Nat)->σ->Int->bg->Prop}(Q:Nat->σ->bg->Prop)(f:Q 0 e m)
 (h:∀(k:Nat)(s:σ)(a:bg)(I:σ->Int->bg->Prop)(μ:σ->Int->bg->Nat),k<=n->Q k s a->
  (k<n->∀b c,Q (k+1) b c->I b (eJ ((k:Int)+1)) c/\μ b (eJ ((k:Int)+1)) c<μ s k a)->d I μ s k a):
 ∃(I:σ->Int->bg->Prop)(μ:σ->Int->bg->Nat),I e 0 m/\∀s i a,I s i a->d I μ s i a:=by
 refine⟨λs i c=>∃k:Nat,i=k/\k<=n/\Q k s c,λ_ i _=>(n -i).toNat,⟨0,O,iD _,f⟩,?_⟩
 rintro s i a ⟨k,rfl,g,o⟩
 refine h k s a _ _ g o λj b c p=>?_
 rw[nt j l]
 grind
def fW(P:Program)(f:Nat)(d:ap)(m:bg)(p:Prop):Prop:=bK P f d m λv c=>∃b:Bool,v=.bool b/\(b=true<->p)/\D m c
def fW.cg(h:fW P f d m p)(g:∀(b:Bool) c,(b=true<->p)->D m c->K (.bool b) c):bK P f d m K:=
 h.aP λ_ _⟨b,e,a,i⟩=>e▸g b _ a i
def fW.bL{l:ad}(i:fW P f d m p)(g:D e m)(q:∀b∈l,b<e.size)
 (o:∀(b:Bool) c,(b=true<->p)->D m c->D e c->K (.bool b) c):bK P f d m λv c=>gS l m c/\K v c:=
 i.aP λ_ _⟨b,n,j,a⟩=>⟨a.eV λh k=>g.lt (q h k),n▸o b _ j a (g.J a)⟩
def DO.bL{l:ad}(i:DO P f d m v)(g:D e m)(o:∀b∈l,b<e.size)
 (n:∀c,D m c->D e c->K v c):bK P f d m λv c=>gS l m c/\K v c:=
 i.aP λ_ _⟨k,a⟩=>⟨a.eV λh j=>g.lt (o h j),k▸n _ a (g.J a)⟩
def bK.bL{a:aj}{l:ad}(j:bK P f d m K)(o:D e m)(n:∀b∈l,b<e.size)
 (g:∀v c,K v c->D m c/\a v c):bK P f d m λv c=>gS l m c/\a v c:=
 j.aP λv c h=>⟨(g v c h).1.eV λi k=>o.lt (n i k),(g v c h).2⟩
def kY{b:Bool}(h:b=true<->p)(d:D m c):∃a:Bool,Value.bool b=.bool a/\(a=true<->p)/\D m c:=⟨b,O,h,d⟩
def fy(h:¬p)(b:D m c):∃a:Bool,Value.bool false=.bool a/\(a=true<->p)/\D m c:=cB
def oD(h:p)(b:D m c):∃a:Bool,Value.bool true=.bool a/\(a=true<->p)/\D m c:=by grind [List.take]
def nb{b:Bool}(a:b=true<->p)(h:(!b)=true):¬p:=cB
def yb{b:Bool}(a:b=true<->p)(h:(!b)=false):p:=a.1 cB
def fb{b:Bool}(a:b=true<->p)(h:b=false):¬p:=cB
def dK{α:Type}{l:List α}{x:α}{p:α->Prop}(a:l[k]? =some x)(h:∀y∈l.take k,p y)(b:p x):∀y∈l.take (k+1),p y:=by
 rw[bX a];grind
def gH{α:Type}{l:List α}{p:α->Prop}(a:l.length<=k)(h:∀y∈l.take k,p y):∀y∈l,p y:=by rw[<-eQ a];exact h
theorem aZ{α:Type}{l:List α}{x:α}(h:l[k]? =some x):x∈l:=kT h
end
section
variable{m:bg}{s:E}{k:Nat}
structure cR where
 qe:Int
 to:Int
 eB:List ab
abbrev af:=List cR
structure Instr where
 op:Int
 bH:Int
 cE:Int
 dh:Int
 aO:ab
 gE:ab
structure eG where
 aY:ab
 df:ab
 bQ:Int
 aU:Int
 eA:List Instr
abbrev aE:=List (eG×E)
abbrev av:=List eG
structure cZ where
 bS:af
 di:av
def qD(m:bg)(a:ae)(c:ab):Prop:=∃f,a=[.s f]/\ba m f c
def lg(m:bg)(a:ae)(d:cR):Prop:=∃f,a=[.i d.qe,.i d.to,.s f]/\fX m 1 (qD m) f d.eB
def gG(m:bg)(b:ae)(x:Instr):Prop:=∃a j,b=[.i x.op,.i x.bH,.i x.cE,.i x.dh,.s a,.s j]/\ba m a x.aO/\ba m j x.gE
def oJ(m:bg)(b:ae)(p:eG):Prop:=
 ∃a l c,b=[.s a,.s l,.i p.bQ,.i p.aU,.s c]/\ba m a p.aY/\ba m l p.df/\fX m 6 (gG m) c p.eA
abbrev tr(m:bg)(s:E)(l:List ab):Prop:=fX m 1 (qD m) s l
abbrev dA(m:bg)(s:E)(l:af):Prop:=fX m 3 (lg m) s l
abbrev je(m:bg)(s:E)(l:List Instr):Prop:=fX m 6 (gG m) s l
abbrev mh(m:bg)(s:E)(l:av):Prop:=fX m 5 (oJ m) s l
@[grind cases] structure gY (m:bg) (d p:E) (im:cZ):Prop where
 bS:dA m d im.bS
 di:mh m p im.di
def qD.ext{m b:bg}(g:D m b)(a:ae)(c:ab):qD m a c->qD b a c:=λ⟨f,d,e⟩=>⟨f,d,e.ext g⟩
def tr.ext{m b:bg}(a:D m b){s:E}{l:List ab}(h:tr m s l):tr b s l:=h.aP a (qD.ext a)
def lg.ext{m b:bg}(g:D m b)(a:ae)(c:cR):lg m a c->lg b a c:=λ⟨f,d,e⟩=>⟨f,d,tr.ext g e⟩
theorem dA.ext{m b:bg}(a:D m b){s:E}{l:af}(h:dA m s l):dA b s l:=h.aP a (lg.ext a)
def gG.ext{m d:bg}(b:D m d)(a:ae)(c:Instr):gG m a c->gG d a c:=λ⟨e,j,f,g,h⟩=>⟨e,j,f,g.ext b,h.ext b⟩
def je.ext{m b:bg}(a:D m b){s:E}{l:List Instr}(h:je m s l):je b s l:=h.aP a (gG.ext a)
def oJ.ext{m d:bg}(a:D m d)(b:ae)(c:eG):oJ m b c->oJ d b c:=λ⟨e,l,c,f,g,h,i⟩=>⟨e,l,c,f,g.ext a,h.ext a,je.ext a i⟩
def mh.ext{m b:bg}(a:D m b){s:E}{l:av}(h:mh m s l):mh b s l:=h.aP a (oJ.ext a)
def gY.ext{m c:bg}(a:D m c){d p:E}{b:cZ}(h:gY m d p b):gY c d p b:=⟨dA.ext a h.bS,mh.ext a h.di⟩
theorem tr.bt{l:List ab}(h:tr m s l){x:ab}(b:l[k]? =some x):
 ∃f,ba m f x/\aS m s.bz (s.off+k*1)=some f.v:=by
 obtain⟨d,⟨f,rfl,a⟩,c⟩:=h.kZ k x b
 exact⟨f,a,c 0 (.s f) O⟩
theorem dA.bt{l:af}(h:dA m s l){x:cR}(c:l[k]? =some x):
 ∃f,tr m f x.eB/\aS m s.bz (s.off+k*3)=some (vi x.qe)/\aS m s.bz (s.off+k*3+1)=some (vi x.to)/\aS m s.bz (s.off+k*3+2)=some f.v:=by
 obtain⟨d,⟨f,rfl,b⟩,a⟩:=h.kZ k x c
 exact⟨f,b,a 0 (.i x.qe) O,a 1 (.i x.to) O,a 2 (.s f) O⟩
theorem je.bt{l:List Instr}(h:je m s l){x:Instr}(e:l[k]? =some x):
 ∃b j,ba m b x.aO/\ba m j x.gE/\aS m s.bz (s.off+k*6)=some (vi x.op)/\aS m s.bz (s.off+k*6+1)=some (vi x.bH)/\aS m s.bz (s.off+k*6+2)=some (vi x.cE)/\
  aS m s.bz (s.off+k*6+3)=some (vi x.dh)/\aS m s.bz (s.off+k*6+4)=some b.v/\aS m s.bz (s.off+k*6+5)=some j.v:=by
 obtain⟨f,⟨b,j,rfl,c,d⟩,a⟩:=h.kZ k x e
 exact⟨b,j,c,d,a 0 (.i x.op) O,a 1 (.i x.bH) O,a 2 (.i x.cE) O,a 3 (.i x.dh) O,a 4 (.s b) O,a 5 (.s j) O⟩
theorem mh.bt{l:av}(h:mh m s l){x:eG}(i:l[k]? =some x):
 ∃a b c,ba m a x.aY/\ba m b x.df/\je m c x.eA/\aS m s.bz (s.off+k*5)=some a.v/\aS m s.bz (s.off+k*5+1)=some b.v/\aS m s.bz (s.off+k*5+2)=some (vi x.bQ)/\
  aS m s.bz (s.off+k*5+3)=some (vi x.aU)/\aS m s.bz (s.off+k*5+4)=some c.v:=by
 obtain⟨j,⟨a,b,c,rfl,e,f,g⟩,d⟩:=h.kZ k x i
 exact⟨a,b,c,e,f,g,d 0 (.s a) O,d 1 (.s b) O,d 2 (.i x.bQ) O,d 3 (.i x.aU) O,d 4 (.s c) O⟩
end
section
variable{f a:bg}{d:Nat}{s:E}{l:ae}{g:List ae}
@[grind cases] structure jy (m0 m:bg) (e sz:Nat) (s:E) (l:ae):Prop where
 aT:l.length=s.len*sz
 bt:s=.nil\/∃b c tail,s=.mk b 0 s.len c/\m0.size<=b/\dF m b e (l++tail)/\(l++tail).length=c*sz/\s.len<=c
theorem jy.gN(f a:bg)(d b:Nat):jy f a d b .nil []:=⟨bO,bC O⟩
theorem jy.bF(h:D f a)(d c:Nat)(l:ae)(k:Nat)(b:l.length=k*c):jy f (a.push (.cells (db l) d)) d c (.mk a.size 0 k k) l:=
 ⟨b,bR ⟨a.size,k,[],O,h.aQ,by rw[fP];exact dF.push _ _ _,sp b,bY⟩⟩
theorem jy.congr{f a e:bg}{d g:Nat}{s:E}{l:ae}(h:jy f a d g s l)(c:e[s.bz]? =a[s.bz]?):jy f e d g s l:=by
 refine⟨h.aT,?_⟩;rcases h.bt with b|⟨i,j,tail,b,h2,h3,h4,h5⟩
 .exact bC b
 .refine bR ⟨i,j,tail,b,h2,h3.congr ?_,h4,h5⟩;rw[b]at c;exact c
def jy.lt{f a:bg}{d c:Nat}{s:E}{l:ae}(h:jy f a d c s l):s=.nil\/s.bz<a.size:=by
 rcases h.bt with b|⟨e,g,tail,b,h2,h3,h4,h5⟩
 .exact bC b
 .rw[b];exact bR h3.lt
theorem jy.ext{c:bg}{e:Nat}(h:jy f a d e s l)(g:D a c):jy f c d e s l:=by
 rcases h.lt with b|b
 .subst b;exact⟨h.aT,bC O⟩
 .exact h.congr (g.bG _ b)
theorem jy.cW{c:bg}{e:Nat}(h:jy c a d e s l)(j:f.size<=c.size):jy f a d e s l:=by
 refine⟨h.aT,?_⟩;rcases h.bt with b|⟨g,i,tail,b,h2,h3,h4,h5⟩
 .exact bC b
 .exact bR ⟨g,i,tail,b,fD j h2,h3,h4,h5⟩
def jy.bz{c:Nat}(h:jy f a d c s l):s=.nil\/f.size<=s.bz:=by
 rcases h.bt with b|⟨e,g,tail,b,h2,h3,h4,h5⟩
 .exact bC b
 .rw[b];exact bR h2
def jG.Rc{b o:Nat}{r:ae}(h:jG a b o (l++r)):jG a b o l:=λi c d=>h i c cB
def jy.kZ{f a:bg}{d g:Nat}{s:E}{l:ae}(h:jy f a d g s l):jG a s.bz s.off l:=by
 rcases h.bt with b|⟨i,c,tail,b,h2,h3,h4,h5⟩
 .have:=cp.1 (by rw[h.aT,b];simp);subst this;intro j c e;simp at e
 .rw[b];exact h3.kZ.Rc
theorem Gm(l a tail:ae)(h:a.length<=tail.length):kJ (l++tail) l.length a=l++a++tail.drop a.length:=by
 apply ft;grind [KO]
def jy.fx{c:ae}{w:Nat}{x:E}{i:ae}{K:E->bg->Prop}(k:jy f a d c.length s l)(q:D f a)
 (t:i.length=x.len*c.length)(H:jG a x.bz x.off i)(u:(s.len+x.len)*w<=140737488355328)
 (v:∀n p,jy f p d c.length n (l++i)->D f p->n.len=s.len+x.len->a.size<=p.size->(∀g,g<a.size->(s≠.nil->g≠s.bz)->p[g]? =a[g]?)->((s=.nil/\n=.nil)\/(s≠.nil/\n.bz=s.bz/\n≠.nil)\/n.bz=a.size)->K n p):
 mj a d c w s x K:=by
 refine⟨i,t,H,λF=>?_,λL=>⟨u,l,k.aT,k.kZ,λj z=>?_⟩⟩
 .rcases k.bt with h|⟨g,j,tail,h,h2,h3,h4,h5⟩
  .subst h
   have y:x.len=0:=sp F
   have B:=cp.1 (by rw[t,y];simp)
   subst B
   refine⟨λC A=>by simp at A,?_⟩
   exact v .nil _ ⟨by rw[fP];exact k.aT,bC O⟩ (by simpa[aV]using q) (by simp[y]) (Np (bD _ _ _ _).symm) (λg u _=>by simp[aV]) (bC ⟨O,O⟩)
  .have A:=k.aT
   have J:s.cap=j:=by rw[h];rfl
   rw[h]
   simp only[E.lT,E.vP,E.kv,eW]
   simp only[dH]at h4
   have C:i.length<=tail.length:=by
    have B:(s.len+x.len)*c.length<=j*c.length:=fE _ V;rw[oB]at B;omega
   refine⟨h3.jb (by simp only[dH];omega),?_⟩
   have y:=dF.aV (m:=a) (b:=g) (e:=d) (r:=i) (o:=s.len*c.length) h3
   rw[<-A,Gm l i tail C]at y
   refine v _ _ ⟨?_,bR ⟨g,j,tail.drop i.length,O,h2,?_,?_,?_⟩⟩ (q.aV h2 _ _) bO (Np (bD _ _ _ _).symm) (λI _ G=>cq _ _ _ _ ?_) (bR (bC ⟨by rw[h];simp,by rw[h];rfl,bO⟩))
   .simp only[dH,E.kv,oB];omega
   .rw[<-A];exact y
   .simp only[dH,List.length_drop];omega
   .simp only[E.kv];omega
   .have:=G (by rw[h];simp)
    rw[h]at this;exact this
 .refine v _ _ ⟨?_,bR ⟨a.size,j,na c (j -(s.len+x.len)),O,q.aQ,dF.push _ _ _,?_,sp z⟩⟩ (q.bZ _) bO bO (λg u _=>by rw[uH,aW V]) (bR (bR O))
  .simp only[dH,E.kv,oB,k.aT,t]
  .simp only[dH,vv,k.aT,t]
   rw[Nat.sub_mul,<-oB]
   have:(s.len+x.len)*c.length<=j*c.length:=fE _ z
   omega
theorem ba.ju{l:ab}(h:jy f a d 1 s (l.map Ce.i))(n:l.length<=9223372036854775807):ba a s l:=by
 have i:s.len=l.length:=by have:=h.aT;simp at this;omega
 refine⟨i,?_,V,λk x g=>⟨[.i x],O,λj e c=>?_⟩⟩
 .rcases h.bt with b|⟨m,e,tail,b,h2,h3,h4,h5⟩
  .rw[b];exact bY
  .rw[b];exact h5
 .have b:j=0:=by have:=br c;simp at this;omega
  subst b;simp at c;subst c;have:=h.kZ k (.i x) (by simp[g]);simpa using this
def jt{f:Nat}:∀{g:List ae}(_:∀a∈g,a.length=f){b:Nat}{a:ae}(_:g[b]? =some a){i:Nat}{c:Ce}(_:a[i]? =some c),g.flatten[b*f+i]? =some c
 |[],_,b,a,h,_,_,_=>by simp at h
 |x::g,d,0,a,h,i,c,e=>by
  grind
 |x::g,d,b+1,a,h,i,c,e=>by
  have l:=d x cK;rw[td,dP cB];have:=jt (g:=g) (λy k=>d y (aX _ k)) (b:=b) cB e;grind
theorem dS{b:Nat}:∀{g:List ae},(∀a∈g,a.length=b)->g.flatten.length=g.length*b
 |[],_=>bO
 |x::g,a=>by
  rw[td,dH,dS (λy c=>a y (aX _ c)),a x cK,dz,oB];omega
@[grind cases] structure iy {α:Type} (sz:Nat) (R:ae->α->Prop) (css:List ae) (l:List α):Prop where
 aT:css.length=l.length
 aQ:∀cs∈css,cs.length=sz
 eS:∀(j:Nat)(cs:ae)(x:α),css[j]? =some cs->l[j]? =some x->R cs x
def iy.gN{α:Type}(a:Nat)(R:ae->α->Prop):iy a R [] []:=⟨O,bO,bO⟩
def iy.Dh{α:Type}{a:Nat}{R:ae->α->Prop}{l:List α}(h:iy a R g l){cs:ae}{x:α}(b:cs.length=a)(c:R cs x):iy a R (g++[cs]) (l++[x]):=by
 constructor<;>grind
theorem iy.aP{α:Type}{c:Nat}{R a:ae->α->Prop}{l:List α}(h:iy c R g l)(d:∀b x,R b x->a b x):iy c a g l:=
 by constructor<;>grind
def fX.ju{α:Type}{c:Nat}{R:ae->α->Prop}{l:List α}(h:jy f a d c s g.flatten)(e:iy c R g l)(q:0<c)(t:l.length<=9223372036854775807):fX a c R s l:=by
 have p:s.len=l.length:=by
  have b:=h.aT;rw[dS e.aQ]at b;have:=Nat.eq_of_mul_eq_mul_right q b;rw[<-this,e.aT]
 refine⟨p,?_,V,λk x o=>?_⟩
 .rcases h.bt with b|⟨j,i,tail,b,h2,h3,h4,h5⟩
  .rw[b];exact bY
  .rw[b];exact h5
 .let⟨j,m⟩:=dV g k cB;refine⟨j,e.eS k j x m o,λr i n=>?_⟩;have:=h.kZ (k*c+r) i (jt e.aQ m n);grind
end
section
variable{S c:ad}{m a d:bg}{b o e:Nat}{l:ae}{s:E}
def dB(S:ad)(m:bg):bg:=m.mapIdx λb o=>if b∈S then .cells #[] 0 else o
def Le(M a:bg):Prop:=∀b o v,aS M b o=some v->aS a b o=some v
theorem iO{v:Value}:aS (dB S m) b o=some v<->b∉S/\aS m b o=some v:=by
 grind [aS,dB]
def Le.cU(m:bg):Le m m:=λ_ _ _ h=>h
def Le.J{a b c:bg}(h:Le a b)(k:Le b c):Le a c:=λx o v d=>k x o v (h x o v d)
def D.le(h:D m a):Le m a:=λ_ _ _ b=>h.aS b
def ac8(S:ad)(m:bg):Le (dB S m) m:=λ_ _ _ h=>(iO.1 h).2
def fN:Le (dB S m) m:=ac8 S m
theorem tG(h:∀b,b<m.size->b∉S->b∉c/\a[b]? =m[b]?):Le (dB S m) (dB c a):=λb o v d=>by
 grind [iO,rV,bE]
theorem D.dB(h:D m a)(d:∀b∈c,b∈S\/m.size<=b):Le (dB S m) (dB c a):=
 by grind [tG,D.bG]
def D.fj(h:D m a):Le (Vc.dB S m) (Vc.dB S a):=by grind [D.dB]
theorem mS(m:bg)(a:∀b∈c,b∈S):Le (dB S m) (dB c m):=by grind [D.cU,D.dB]
theorem Le.kZ{M a:bg}(h:Le M a)(e:jG M b o l):jG a b o l:=λi c d=>h _ _ _ (e i c d)
theorem fX.le{α:Type}{d:Nat}{R b:ae->α->Prop}{l:List α}(h:fX m d R s l)(f:Le m a)(e:∀c x,R c x->b c x):fX a d b s l:=
 by constructor<;>grind [fX.aT,fX.ms,fX.kK,fX.kZ,Le.kZ]
def ba.le{m a:bg}(b:Le m a){s:E}{l:ab}(h:ba m s l):ba a s l:=by grind [fX.le]
def qD.le{m a:bg}(g:Le m a)(b:ae)(c:ab):qD m b c->qD a b c:=λ⟨f,d,e⟩=>⟨f,d,e.le g⟩
def lg.le{m a:bg}(d:Le m a)(b:ae)(c:cR):lg m b c->lg a b c:=λ⟨f,e,g⟩=>⟨f,e,fX.le g d (qD.le d)⟩
def dA.le{m a:bg}(b:Le m a){s:E}{l:af}(h:dA m s l):dA a s l:=fX.le h b (lg.le b)
theorem Tj(a:b∉S)(h:jG m b o l):jG (dB S m) b o l:=λi c d=>iO.2 ⟨a,h i c d⟩
theorem fX.Wz{α:Type}{a:Nat}{R:ae->α->Prop}{c:List ae}{l:List α}(t:∀b∈S,b<d.size)(h:jy d m e a s c.flatten)(k:iy a R c l)(n:0<a)(j:l.length<=9223372036854775807):fX (dB S m) a R s l:=by
 have H:=fX.ju h k n j;refine⟨H.aT,H.ms,H.kK,λo x i=>?_⟩;let⟨p,q,r⟩:=H.kZ o x i;rcases h.bz with f|f
 .have g:=H.aT;have:=br i;rw[f]at g;simp at g;omega
 .grind [Tj]
theorem ba.Wz{l:ab}(o:∀b∈S,b<d.size)(h:jy d m e 1 s (l.map Ce.i))(g:l.length<=9223372036854775807):ba (dB S m) s l:=by
 have H:=ba.ju h g;refine⟨H.aT,H.ms,H.kK,λk x f=>?_⟩;let⟨i,j,n⟩:=H.kZ k x f;rcases h.bz with a|a
 .have c:=H.aT;have:=br f;rw[a]at c;simp at c;omega
 .grind [Tj]
end
section
variable{X Y S:ad}{m a b c d:bg}{f:ae}{s:E}{k:Nat}
@[grind cases] structure Fz (X:ad) (m m':bg):Prop where
 aQ:m.size<=m'.size
 bG:∀b,b<m.size->b∉X->m'[b]? =m[b]?
theorem Fz.cU(X:ad)(m:bg):Fz X m m:=by constructor<;>grind
def nP:Fz X m m:=Fz.cU X m
theorem Fz.vV(h:Fz X a b)(k:Fz Y b c)(d:∀y∈Y,y∈X\/a.size<=y):Fz X a c:=
 by constructor<;>grind [Fz.aQ,Fz.bG]
theorem Fz.J(h:Fz X a b)(k:Fz X b c):Fz X a c:=by grind [Fz.vV]
theorem D.fz(h:D m d)(X:ad):Fz X m d:=⟨h.aQ,λb a _=>h.bG b a⟩
theorem Fz.cg(h:Fz X a b)(k:D b c):Fz X a c:=h.J (k.fz X)
def Fz.push{X:ad}{a m:bg}(h:Fz X a m)(o:Obj):Fz X a (m.push o):=h.cg (D.push m o)
theorem Fz.ext(h:Fz [] m d):D m d:=by constructor<;>grind [Fz.aQ,Fz.bG]
theorem Fz.Ij(h:Fz X m d)(a:∀b∈X,b∈Y\/m.size<=b):Fz Y m d:=by constructor<;>grind [Fz.aQ,Fz.bG]
theorem Fz.aV(h:Fz X a m){b:Nat}(c:b∈X\/a.size<=b)(o:Nat)(l:ae):Fz X a (aV m b o l):=
 ⟨by rw[bD];exact h.aQ,λj f d=>by
  have e:j≠b:=λe=>by subst e;exact c.elim d λc=>V
  rw[cq l m b o e];exact h.bG j f d⟩
theorem Fz.dB(h:Fz X m d){a:ad}(e:∀b∈X,b∈S)(c:∀b∈a,b∈S\/m.size<=b):Le (dB S m) (dB a d):=
 by grind [tG,Fz.bG]
theorem Fz.fj(h:Fz X m d)(a:∀b∈X,b∈S):Le (Vc.dB S m) (Vc.dB S d):=by grind [Fz.dB]
def Fz.eV(h:Fz X m d){l:ad}(c:∀b∈l,b<m.size/\b∉X):gS l m d:=λb a=>h.bG b (c b a).1 (c b a).2
inductive Ex where
 |mk (op cE:Int) (dv:List Ex)
abbrev aJ:=List (eG×Ex)
abbrev ax:=List Ex
def Ex.op:Ex->Int| .mk o _ _=>o
def Ex.cE:Ex->Int| .mk _ n _=>n
def Ex.dv:Ex->ax| .mk _ _ k=>k
structure Rk(β:Type)where
 op:Int
 cE:Int
 dh:Int
 aO:ab
 dv:List β
inductive Bk where
 |mk (bA:List (Rk Bk)) (bQ:Int)
abbrev aF:=List Bk
abbrev eN:=Rk Bk
abbrev au:=List eN
def Bk.bA:Bk->au| .mk s _=>s
def Bk.bQ:Bk->Int| .mk _ r=>r
@[simp] theorem Ex.abS (o n:Int) (k:ax):(Ex.mk o n k).op=o:=rfl
@[simp] theorem Ex.Z1 (o n:Int) (k:ax):(Ex.mk o n k).cE=n:=rfl
@[simp] theorem Ex.XB (o n:Int) (k:ax):(Ex.mk o n k).dv=k:=rfl
@[simp] theorem Bk.mV (s:au) (r:Int):(Bk.mk s r).bA=s:=rfl
@[simp] theorem Bk.lV (s:au) (r:Int):(Bk.mk s r).bQ=r:=rfl
inductive DN(m:bg):ae->Ex->Prop
 |mk (op cE:Int) (dv:ax) (s:E) (css:Nat->ae) (hl:s.len=dv.length) (hc:s.len<=s.cap) (hm:s.len<=9223372036854775807)
  (hr:∀(k:Nat)(x:Ex),dv[k]? =some x->jG m s.bz (s.off+k*3) (css k)) (hk:∀(k:Nat)(x:Ex),dv[k]? =some x->DN m (css k) x):DN m [.i op,.i cE,.s s] (.mk op cE dv)
inductive vx(m:bg):ae->Bk->Prop
 |mk (bA:List (Rk Bk)) (r:Int) (s:E) (hl:s.len=bA.length) (hc:s.len<=s.cap) (hm:s.len<=9223372036854775807) (aa ks:Nat->E) (kcs:Nat->Nat->ae)
  (hr:∀(k:Nat)(x:Rk Bk),bA[k]? =some x->jG m s.bz (s.off+k*5) [.i x.op,.i x.cE,.i x.dh,.s (aa k),.s (ks k)]/\ba m (aa k) x.aO/\(ks k).len=x.dv.length/\(ks k).len<=(ks k).cap/\(ks k).len<=9223372036854775807)
  (hb:∀(k:Nat)(x:Rk Bk)(j:Nat)(b:Bk),bA[k]? =some x->x.dv[j]? =some b->jG m (ks k).bz ((ks k).off+j*2) (kcs k j))
  (hk:∀(k:Nat)(x:Rk Bk)(j:Nat)(b:Bk),bA[k]? =some x->x.dv[j]? =some b->vx m (kcs k j) b):vx m [.s s,.i r] (.mk bA r)
def kd(m:bg)(f:ae)(x:eN):Prop:=∃a k,f=[.i x.op,.i x.cE,.i x.dh,.s a,.s k]/\ba m a x.aO/\fX m 2 (vx m) k x.dv
abbrev jz(m:bg)(s:E)(l:ax):Prop:=fX m 3 (DN m) s l
abbrev iN(m:bg)(s:E)(l:au):Prop:=fX m 5 (kd m) s l
abbrev rQ(m:bg)(s:E)(l:aF):Prop:=fX m 2 (vx m) s l
theorem DN.le(h:Le m d){e:Ex}(a:DN m f e):DN d f e:=by
 induction a with
 |mk n cE dv s b g c i a o l=>exact .mk n cE dv s b g c i (λk x j=>h.kZ (a k x j)) l
theorem vx.le{m d:bg}(h:Le m d){f:ae}{b:Bk}(a:vx m f b):vx d f b:=by
 induction a with
 |mk bA t s o n p e ks r a l u q=>
  exact .mk bA t s o n p e ks r (λk x c=>let⟨g,i,j⟩:=a k x c;⟨h.kZ g,i.le h,j⟩) (λk x j b c g=>h.kZ (l k x j b c g)) q
def fX.J5{α:Type}{a:Nat}{R:ae->α->Prop}{l:List α}(h:fX m a R s l):
 ∃b:Nat->ae,∀(k:Nat)(x:α),l[k]? =some x->R (b k) x/\jG m s.bz (s.off+k*a) (b k):=by
 have:∀k:Nat,∃f:ae,∀x:α,l[k]? =some x->R f x/\jG m s.bz (s.off+k*a) f:=λk=>by
  cases e:l[k]? with
  |none=>exact⟨[],λx c=>by simp at c⟩
  |some x=>obtain⟨f,d⟩:=h.kZ k x e;exact⟨f,λy c=>by simp at c;exact c▸d⟩
 exact⟨λk=>Classical.choose (this k),λk=>jD (this k)⟩
theorem DN.cy{e:Ex}(h:DN m f e):∃s,f=[.i e.op,.i e.cE,.s s]/\jz m s e.dv:=by
 cases h with
 |mk l cE dv s b g c i j d=>exact⟨s,O,g,c,i,λk x a=>⟨b k,d k x a,j k x a⟩⟩
def DN.of{b cE:Int}{dv:ax}(h:jz m s dv):DN m [.i b,.i cE,.s s] (.mk b cE dv):=by
 let⟨d,c⟩:=h.J5;exact .mk b cE dv s d h.aT h.ms h.kK (λk x a=>(c k x a).2) λk x a=>(c k x a).1
theorem vx.cy{b:Bk}(h:vx m f b):∃s,f=[.s s,.i b.bQ]/\iN m s b.bA:=by
 cases h with
 |mk bA w s r p t d ks v u o q=>
  exact⟨s,O,r,p,t,λk x a=>let⟨e,g,i,l,n⟩:=u k x a;⟨_,⟨d k,ks k,O,g,i,l,n,λj b c=>⟨v k j,q k x j b a c,o k x j b a c⟩⟩,e⟩⟩
def vx.of{r:Int}{bA:au}(h:iN m s bA):vx m [.s s,.i r] (.mk bA r):=by
 let⟨g,n⟩:=h.J5;have:∀k:Nat,∃(a c:E)(kc:Nat->ae),∀x:eN,bA[k]? =some x->g k=[.i x.op,.i x.cE,.i x.dh,.s a,.s c]/\ba m a x.aO/\(c.len=x.dv.length/\c.len<=c.cap/\c.len<=9223372036854775807)/\
  ∀(j:Nat)(b:Bk),x.dv[j]? =some b->vx m (kc j) b/\jG m c.bz (c.off+j*2) (kc j):=λk=>by
  cases o:bA[k]? with
  |none=>exact⟨.nil,.nil,λ_=>[],λx d=>by simp at d⟩
  |some x=>
   obtain⟨⟨a,c,i,l,e⟩,_⟩:=n k x o
   let⟨kc,p⟩:=e.J5
   exact⟨a,c,kc,λy f=>by simp at f;subst f;exact⟨i,l,⟨e.aT,e.ms,e.kK⟩,p⟩⟩
 have H:=λk=>jD (jD (jD (this k)));refine .mk bA r s h.aT h.ms h.kK (λk=>Classical.choose (this k)) (λk=>Classical.choose (jD (this k))) (λk=>Classical.choose (jD (jD (this k)))) (λk x d=>?_) (λk x j b d e=>((H k x d).2.2.2 j b e).2) λk x j b d e=>((H k x d).2.2.2 j b e).1;grind
theorem kd.le{m d:bg}(h:Le m d){f:ae}{x:eN}:kd m f x->kd d f x:=λ⟨a,k,b,c,e⟩=>⟨a,k,b,c.le h,fX.le e h λ_ _=>vx.le h⟩
def jz.le{m d:bg}(a:Le m d){s:E}{l:ax}(h:jz m s l):jz d s l:=by grind [fX.le,DN.le]
def iN.le{m d:bg}(a:Le m d){s:E}{l:au}(h:iN m s l):iN d s l:=by grind [fX.le,kd.le]
def rQ.le{m d:bg}(a:Le m d){s:E}{l:aF}(h:rQ m s l):rQ d s l:=by grind [fX.le,vx.le]
theorem jz.bt{l:ax}(h:jz m s l){x:Ex}(b:l[k]? =some x):
 ∃t,jz m t x.dv/\aS m s.bz (s.off+k*3)=some (vi x.op)/\aS m s.bz (s.off+k*3+1)=some (vi x.cE)/\aS m s.bz (s.off+k*3+2)=some t.v:=by
 let⟨f,d,a⟩:=h.kZ k x b
 obtain⟨t,rfl,c⟩:=d.cy
 exact⟨t,c,a 0 _ O,a 1 _ O,a 2 _ O⟩
theorem iN.bt{l:au}(h:iN m s l){x:eN}(e:l[k]? =some x):
 ∃a t,ba m a x.aO/\rQ m t x.dv/\aS m s.bz (s.off+k*5)=some (vi x.op)/\aS m s.bz (s.off+k*5+1)=some (vi x.cE)/\aS m s.bz (s.off+k*5+2)=some (vi x.dh)/\aS m s.bz (s.off+k*5+3)=some a.v/\aS m s.bz (s.off+k*5+4)=some t.v:=by
 obtain⟨f,⟨a,t,rfl,c,d⟩,b⟩:=h.kZ k x e
 exact⟨a,t,c,d,b 0 _ O,b 1 _ O,b 2 _ O,b 3 _ O,b 4 _ O⟩
theorem rQ.bt{l:aF}(h:rQ m s l){x:Bk}(b:l[k]? =some x):
 ∃t,iN m t x.bA/\aS m s.bz (s.off+k*2)=some t.v/\aS m s.bz (s.off+k*2+1)=some (vi x.bQ):=by
 let⟨f,d,a⟩:=h.kZ k x b
 obtain⟨t,rfl,c⟩:=d.cy
 exact⟨t,c,a 0 _ O,a 1 _ O⟩
def Bk.w:Bk->Nat
 | .mk bA _=>1+(bA.map λs=>1+s.aO.length+(s.dv.map Bk.w).sum).sum
decreasing_by
 rename_i s a _ _
 have b:=sR a
 have c:=sR (by assumption:_∈s.dv)
 have d:SizeOf.sizeOf s.dv<SizeOf.sizeOf s:=by cases s;simp;omega
 simp;omega
def Rk.w(s:Rk Bk):Nat:=1+s.aO.length+(s.dv.map Bk.w).sum
def Bk.aeP(b:Bk):b.w=1+(b.bA.map Rk.w).sum:=by
 cases b;rw[Bk.w];rfl
def Ex.n:Ex->Nat
 | .mk _ _ dv=>1+(dv.map Ex.n).sum
end
section
variable{S Y S' X:ad}{d a c:bg}{b k n i tb:Nat}{s x:E}{h f o:ae}{g:List ae}{K:E->bg->Prop}
@[grind cases] structure sE {α:Type} (sz:Nat) (R:bg->ae->α->Prop):Prop where
 le:∀{M M':bg}{cs:ae}{x:α},Le M M'->R M cs x->R M' cs x
 aT:∀{M:bg}{cs:ae}{x:α},R M cs x->cs.length=sz
def yo(_:bg)(f:ae)(n:Int):Prop:=aaA f n
theorem yo.aP:sE 1 yo:=⟨λ_ h=>h,λh=>by rw[h];rfl⟩
def DN.aP:sE 3 DN:=by constructor<;>grind [DN.le,DN.cy]
def vx.aP:sE 2 vx:=by constructor<;>grind [vx.le,vx.cy]
theorem kd.aP:sE 5 kd:=⟨λh=>kd.le h,λh=>by obtain⟨_,_,rfl,_⟩:=h;rfl⟩
@[grind cases] structure Gr {α:Type} (S:ad) (m0 m:bg) (e sz:Nat) (R:bg->ae->α->Prop) (s:E) (l:List α):Prop where
 jw:s≠.nil
 bI:∃css,jy m0 m e sz s css.flatten/\iy sz (R (dB (s.bz::S) m)) css l
theorem Gr.aT{α:Type}{S:ad}{d a:bg}{b c:Nat}{R:bg->ae->α->Prop}{s:E}{l:List α}(h:Gr S d a b c R s l)(i:0<c):s.len=l.length:=by
 obtain⟨_,g,e,f⟩:=h;have:=e.aT;rw[dS f.aQ]at this;grind [iy.aT,Nat.eq_of_mul_eq_mul_right]
theorem Gr.cJ{α:Type}{f:Nat}{R:bg->ae->α->Prop}{l:List α}(h:Gr S d a b f R s l):d.size<=s.bz/\s.bz<a.size:=by
 let⟨c,g,e,i⟩:=h;exact⟨e.bz.resolve_left c,e.lt.resolve_left c⟩
theorem Gr.bF{α:Type}(S:ad){d a:bg}(h:d.size<=a.size){b c:Nat}{R:bg->ae->α->Prop}:Gr S d (a.push (.cells (db []) b)) b c R (.mk a.size 0 0 0) []:=
 ⟨bO,[],(jy.bF (D.cU a) b c [] 0 bO).cW h,iy.gN _ _⟩
def Gr.fR{α:Type}{e:Nat}{R:bg->ae->α->Prop}{l:List α}(k:sE e R)(h:Gr S d a b e R s l)(n:Fz Y a c)(m:∀f∈Y,f∈S/\f<d.size):Gr S d c b e R s l:=by
 have o:=h.cJ;let⟨f,g,i,j⟩:=h;constructor<;>grind [jy.congr,Fz.bG,iy.aP,Fz.fj,List.mem_cons_of_mem]
def Gr.Sn{α:Type}{h:Nat}{R:bg->ae->α->Prop}{l:List α}(o:sE h R)(i:Gr S d a b h R s l)(j:Fz Y a c)(p:∀e∈Y,e∈S)(r:s.bz∉Y):Gr S d c b h R s l:=by
 have t:=i.cJ;let⟨k,g,m,n⟩:=i;exact⟨k,g,m.congr (j.bG _ t.2 r),n.aP λf x=>o.le (j.fj λe q=>aX _ (p e q))⟩
theorem Gr.re{α:Type}{h:Nat}{R:bg->ae->α->Prop}{l:List α}(p:sE h R)(i:Gr S d a b h R s l)(k:Fz Y a c)(q:∀e∈Y,e∈S)(r:s.bz∉Y)(u:∀e∈S',e∈S\/a.size<=e):Gr S' d c b h R s l:=by
 have t:=i.cJ;let⟨m,g,n,o⟩:=i;refine⟨m,g,n.congr (k.bG _ t.2 r),o.aP λf x=>p.le (k.dB (λe j=>aX _ (q e j)) λe j=>?_)⟩;grind [List.mem_cons_self,List.mem_cons_of_mem]
theorem Gr.ext{α:Type}{e:Nat}{R:bg->ae->α->Prop}{l:List α}(f:sE e R)(h:Gr S d a b e R s l)(g:D a c):Gr S d c b e R s l:=
 h.fR f (g.fz []) bO
theorem Gr.cr{α:Type}{c:Nat}{R:bg->ae->α->Prop}{l:List α}(f:sE c R)(h:Gr S d a b c R s l)(g:∀e∈S,e<d.size)(i:0<c)(e:l.length<=9223372036854775807):fX (dB S a) c (R (dB S a)) s l:=by
 grind [fX.Wz,iy.aP,mS,List.mem_cons_of_mem]
theorem D.Rc(h:k<=a.size):D (a.extract 0 k) a:=by
 constructor<;>grind [Array.getElem?_extract]
theorem vf(h:k<=a.size):(a.extract 0 k).size=k:=eX
def Gr.xD{α:Type}{F:Nat}{R:bg->ae->α->Prop}{C E:List α}(G:sE h.length R)(U:0<h.length)
 (y:Gr S d a b h.length R s C)(H:Fz X d a)(u:x.len=g.length)(Q:jG a x.bz x.off g.flatten)(n:iy h.length (R (dB (s.bz::S) a)) g E)(i:(C.length+E.length)*F<=140737488355328)
 (O:∀r c,Gr S d c b h.length R r (C++E)->Fz X d c->(a.size<=c.size/\(r.bz=s.bz\/a.size<=r.bz))->(∀e,e<a.size->e≠s.bz->c[e]? =a[e]?)->K r c):mj a b h F s x K:=by
 have P:=y.aT U
 have hy:=y.cJ
 let⟨z,w,N,j⟩:=y
 have q:d.size<=a.size:=H.aQ
 refine jy.fx (f:=a.extract 0 d.size) (c:=h) (i:=g.flatten) (l:=w.flatten) (N.cW (by rw[vf q];exact bY)) (D.Rc q) ?_ Q (by rw[P,u,n.aT];exact i) λr c W k2 k3 Y Z B=>?_
 .rw[dS n.aQ,u]
 have A:∀e,e<a.size->e≠s.bz->c[e]? =a[e]? :=λe i k=>Z e i λ_=>k
 have T:r≠.nil:=by
  rcases B with⟨f,_⟩|⟨_,_,f⟩|f
  .exact absurd f z
  .exact f
  .intro b;rw[b]at f;simp at f;omega
 have J:a.size<=c.size:=Y
 have I:Le (dB (s.bz::S) a) (dB (r.bz::S) c):=tG λe i k=>by
  simp only[bo,FZ]at k;refine⟨?_,A e i k.1⟩;simp only[bo,FZ];refine⟨?_,k.2⟩;rcases B with⟨f,_⟩|⟨_,f,_⟩|f
  .exact absurd f z
  .rw[f];exact k.1
  .omega
 refine O r c ⟨T,w++g,?_,?_⟩ ⟨fD q J,λe i u=>?_⟩ ⟨J,?_⟩ A
 .rw[uI]
  exact W.cW (by rw[vf q];exact bY)
 .refine⟨by simp[j.aT,n.aT],λm o=>?_,λL m M t v=>?_⟩
  .rcases bU.1 o with o|o
   .exact j.aQ m o
   .exact n.aQ m o
  .rcases dJ L w.length with p|p
   .rw[dZ p]at t
    rw[dZ (j.aT▸p)]at v
    exact G.le I (j.eS L m M t v)
   .rw[dP p]at t
    rw[dP (by rw[<-j.aT];exact p),<-j.aT]at v
    exact G.le I (n.eS _ m M t v)
 .rw[A e (cw i q) V];exact H.bG e i u
 .rcases B with⟨f,_⟩|⟨_,f,_⟩|f
  .exact absurd f z
  .exact bC f
  .exact bR V
def Gr.nE{α:Type}{o:Nat}{R:bg->ae->α->Prop}{n:List α}{m:α}(j:sE h.length R)(A:0<h.length)
 (t:Gr S d a b h.length R s n)(x:Fz X d a)(q:R (dB (s.bz::S) a) f m)(k:(n.length+1)*o<=140737488355328)
 (y:∀r c,Gr S d c b h.length R r (n++[m])->Fz X d c->(a.size<=c.size/\(r.bz=s.bz\/a.size<=r.bz))->(∀g,g<a.size->g≠s.bz->c[g]? =a[g]?)->K r c):mj (a.push (.cells (db f) b)) b h o s (.mk a.size 0 1 1) K:=by
 have i:=D.push a (.cells (db f) b)
 refine Gr.xD (g:=[f]) (E:=[m]) j A (t.ext j i) (x.cg i) O ?_ ?_ k λr c u v p w=>y r c u v ⟨fD i.aQ p.1,p.2.imp id (fD i.aQ)⟩ λg k z=>(w g (cw k i.aQ) z).trans (i.bG g k)
 .have:=(dF.push a (e:=b) (l:=f)).kZ
  simpa using this
 .have:=iy.Dh (iy.gN h.length (R (dB (s.bz::S) (a.push (.cells (db f) b))))) (j.aT q) (j.le i.fj q)
  simpa using this
def fX.abT{α:Type}{b:Nat}{R:ae->α->Prop}{l:List α}(D:∀f x,R f x->f.length=b)(q:fX a b R s l):
 ∃g,s.len=g.length/\jG a s.bz s.off g.flatten/\iy b R g l:=by
 let⟨c,y⟩:=q.J5
 have w:∀(d:Nat)(f:ae),((List.range l.length).map c)[d]? =some f->d<l.length/\f=c d:=λd f e=>by
  grind [Option.map_eq_some_iff,List.getElem?_eq_some_iff]
 have k:∀f∈(List.range l.length).map c,f.length=b:=λf v=>by
  let⟨d,e⟩:=cH.1 v;obtain⟨u,rfl⟩:=w d f e;let⟨x,p⟩:=gD u;grind
 refine⟨(List.range l.length).map c,by simp[q.aT],λi t o=>?_,bO,k,λd f x e p=>?_⟩
 .rcases FY b with m|m
  .have h:=br o
   rw[dS k,m]at h;simp at h
  have h:=br o
  rw[dS k]at h
  simp at h
  have e:i/b<l.length:=Nat.div_lt_of_lt_mul cB
  let⟨x,p⟩:=gD e
  have z:i=i/b*b+i%b:=by grind [Nat.mul_comm,Nat.div_add_mod]
  have E:=Nat.mod_lt i m
  have C:(c (i/b)).length=b:=cB
  let⟨A,r⟩:=dV (c (i/b)) (i%b)
  have n:=jt (g:=(List.range l.length).map c) k (b:=i/b) (a:=c (i/b)) (by simp[e]) r
  rw[<-z,o]at n
  simp at n;subst n
  have B:=(y _ x p).2 _ t r
  grind [Nat.add_assoc]
 .grind
def Gr.lY{α:Type}{j:Nat}{R:bg->ae->α->Prop}{l i:List α}(k:sE h.length R)(v:0<h.length)
 (f:Gr S d a b h.length R s l)(t:Fz X d a)(p:fX (dB (s.bz::S) a) h.length (R (dB (s.bz::S) a)) x i)(q:(l.length+i.length)*j<=140737488355328)
 (u:∀r c,Gr S d c b h.length R r (l++i)->Fz X d c->(a.size<=c.size/\(r.bz=s.bz\/a.size<=r.bz))->(∀e,e<a.size->e≠s.bz->c[e]? =a[e]?)->K r c):mj a b h j s x K:=by
 let⟨g,m,n,o⟩:=p.abT λ_ _ f=>k.aT f
 exact Gr.xD k v f t m (fN.kZ n) o q u
def Gr.km{α:Type}{e:Nat}{R:bg->ae->α->Prop}{l:List α}(j:sE e R)(i:d.size<=a.size)(k:f=g.flatten)(m:n=g.length)(h:iy e (R (dB S a)) g l):
 Gr S d (a.push (.cells (db f) b)) b e R (.mk a.size 0 n n) l:=by
 subst k m
 refine⟨bO,g,(jy.bF (D.cU a) b e g.flatten g.length (dS h.aQ)).cW i,h.aP λp x=>j.le ?_⟩
 exact(D.push a _).dB λo c=>by
  rcases bo.1 c with c|c
  .exact bR (by simp[c])
  .exact bC c
def Gr.rU{α:Type}{c:Nat}{R:bg->ae->α->Prop}{l:List α}(n:sE c R)(h:Gr S d a b c R s l)(o:s.bz∉S)(r:0<c)(q:l.length<=9223372036854775807):fX (dB S a) c (R (dB S a)) s l:=by
 obtain⟨_,g,e,i⟩:=h;have H:=fX.ju e (i.aP λf x=>n.le (mS a λm j=>aX s.bz j)) r q;exact⟨H.aT,H.ms,H.kK,λk x p=>let⟨f,j,m⟩:=H.kZ k x p;⟨f,j,Tj o m⟩⟩
def Gr.ne{α:Type}{c:Nat}{R:bg->ae->α->Prop}{l:List α}(h:Gr S d a b c R s l)(e:dF a i tb o)(f:tb≠b):s.bz≠i:=by
 grind [jy.bt,E.lT,dF]
theorem Gr.Qf{α β:Type}{q:bg}{r c t:Nat}{R:bg->ae->α->Prop}{f:bg->ae->β->Prop}{e:E}{o:List α}{p:List β}(j:Gr S d a b r R s o)(k:Gr S' q a c t f e p)(n:c≠b):s.bz≠e.bz:=by
 let⟨l,g,m,z⟩:=k;let⟨u,v,tail,h,w,i,x,y⟩:=m.bt.resolve_left l;have:=j.ne i n;rw[h];exact this
def Gr.bV{α:Type}{L:ad}{j w:Nat}{R:bg->ae->α->Prop}{t:List α}{v:α}{K:bg->Prop}(B:sE h.length R)(U:0<h.length)
 (z:Gr S d a b h.length R s t)(P:Fz X d a)(O:R (dB (s.bz::S) a) f v)(k:(t.length+1)*w<=140737488355328)
 (p:dF a i tb o)(Y:j<o.length)(G:tb≠b)(C:d.size<=i/\i∈S)(A:∀e∈L,e<a.size/\e≠i/\e≠s.bz)
 (Q:∀r c,Gr S d c b h.length R r (t++[v])->dF c i tb (kJ o j [.s r])->Fz X d c->a.size<=c.size->(∀e,e<a.size->e≠s.bz->e≠i->c[e]? =a[e]?)->K c):
 aS (a.push (.cells (db f) b)) i j=aS a i j/\
 mj (a.push (.cells (db f) b)) b h w s (.mk a.size 0 1 1) λr c=>gS L (a.push (.cells (db f) b)) c/\jb c i j 1/\(gS L c (aV c i j [.s r])/\K (aV c i j [.s r])):=by
 have E:=p.lt
 have H:=D.push a (.cells (db f) b)
 refine⟨bE (H.bG i E) j,Gr.nE B U z P O k λr c y I W u=>?_⟩
 have q:dF c i tb o:=p.congr (u i E (th (z.ne p G)))
 have T:=y.ne q G
 have n:∀e,e≠i->(aV c i j [.s r])[e]? =c[e]? :=λe k=>cq _ _ _ _ k
 refine⟨λe k=>?_,q.jb V,λe k=>n e (A e k).2.1,Q r _ ?_ (dF.aV (m:=c) q) (I.aV (bR C.1) _ _) (by rw[bD];exact W.1) λe l M N=>(n e N).trans (u e l M)⟩
 .have l:=A e k
  rw[u e l.1 l.2.2,H.bG e l.1]
 .let⟨J,g,g1,g2⟩:=y
  refine⟨J,g,g1.congr (n _ T),g2.aP λf x=>B.le ?_⟩
  exact tG λe k F=>⟨F,n e λb=>F (by rw[b];exact aX _ C.2)⟩
theorem ba.km(b:Nat){l:ab}(e:∀c∈S,c<a.size)(c:f=l.map Ce.i)(d:n=l.length)(g:l.length<=9223372036854775807):ba (dB S (a.push (.cells (db f) b))) (.mk a.size 0 n n) l:=by
 subst c d;have h:=jy.bF (D.cU a) b 1 (l.map Ce.i) l.length bO;grind [ba.Wz]
end
section
variable{x y:Operand}{k:SV->Prop}{l h:ae}{f:Int->Prop}{r:aA}{a:Int}{g:Array (Nat×Operand)}{e:ar}{Q:Exit->Fr->bg->Prop}{c:Code}
section
variable{P:Program}{T:TT}{G:ad}{n:Nat}{A:T8}{m q:bg}{p u:Fr}{b o j i t:Nat}{s:Sh}{d:Option Nat}{v:Value}
def nc(n:Nat):Int:=n
def nce{n:Nat}:nc n=n:=rfl
def abB:Zl T p .len [t] [x] k=match jx T t,ev p x with
 |some ⟨.slice _,_,_⟩,.c (.s s)=>k (.c (.i (nc s.len)))
 |_,_=>False:=rfl
def abC{l:ad}:Zl T p .max l [x,y] k=match ev p x,ev p y with
 | .c (.i a),.c (.i b)=>k (.c (.i (if b>a then b else a)))
 |_,_=>False:=rfl
def abD{l:ad}:Zl T p .min l [x,y] k=match ev p x,ev p y with
 | .c (.i a),.c (.i b)=>k (.c (.i (if b<a then b else a)))
 |_,_=>False:=rfl
def XH(m:bg)(k:bg->Prop):Ts m k=(let q:=m;k q):=rfl
def pa{α:Type}(x:α)(f:α->Prop):Prop:=f x
def Yt(s:Sh)(f:s.ty->Prop):Prop:=∃x,f x
def alS(s:Sh)(f:s.ty->Prop):Prop:=∀x,f x
def exI:Yt .I f=∃x,pa x f:=rfl
def exU{k:IntKind}:Yt (.U k) f=∃x,pa x f:=rfl
def exB{f:Bool->Prop}:Yt .T f=∃x,pa x f:=rfl
def adU{f:E->Prop}:Yt .S f=∃x,pa x f:=rfl
def exP{f:Nat×Nat->Prop}:Yt .P f=∃x,pa x f:=rfl
def exF{f:Fn×Array Value×Array Value->Prop}:Yt .F f=∃x,pa x f:=rfl
def exM{f:Nat->Prop}:Yt .M f=∃x,pa x f:=rfl
def alI:alS .I f=∀x,f x:=rfl
def alU{k:IntKind}:alS (.U k) f=∀x,f x:=rfl
def alB{f:Bool->Prop}:alS .T f=∀x,f x:=rfl
def adF{f:E->Prop}:alS .S f=∀x,f x:=rfl
def alP{f:Nat×Nat->Prop}:alS .P f=∀x,f x:=rfl
def alF{f:Fn×Array Value×Array Value->Prop}:alS .F f=∀x,f x:=rfl
def exQ{f:Option (Nat×Nat)->Prop}:Yt .Q f=∃x,pa x f:=rfl
def alQ{f:Option (Nat×Nat)->Prop}:alS .Q f=∀x,f x:=rfl
def alM{f:Nat->Prop}:alS .M f=∀x,f x:=rfl
def cU8{x:Int}:nL (.int .u8 x)=some (.u .u8 x):=rfl
def z0:na h 0=[]:=rfl
def z1:na h (n+1)=h++na h n:=rfl
def tb{a b:Nat}:Nat.testBit a b=(1&&&(a>>>b)!=0):=rfl
def abw{e:Edge}{a:afC}:oO (e::a)=bif Region.binds .any e then 2^e.on|||oO a else oO a:=rfl
def b1:Region.binds .any ⟨i,.data⟩=true:=rfl
def b2:Region.binds .any ⟨i,.chain⟩=true:=rfl
def b3:Region.binds .any ⟨i,.guard⟩=true:=rfl
def b4:Region.binds .any ⟨i,.phase⟩=true:=rfl
def b5{x:Departure}:Region.binds .any ⟨i,.gcOnly x⟩=false:=rfl
def b6{x:Departure}:Region.binds .any ⟨i,.textOnly x⟩=false:=rfl
def XA(c:Ce)(k:ae->Prop)(l:ae):Prop:=k (c::l)
def aaR(k:SV->Prop)(l:ae):Prop:=k (.agg l)
def kld(m:bg)(b o j:Nat)(s:Sh)(r:aA)(k:ae->Prop)(x:s.ty):Prop:=
 aS m b (bif j==0 then o else o+j)=some (s.mk x).v/\ldC m b o (j+1) r (XA (s.mk x) k)
def adP{k:ae->Prop}:ldC m b o j (s::r) k=Yt s (kld m b o j s r k):=by
 cases j<;>rfl
def klc(m:bg)(b o:Nat)(s:Sh)(k:SV->Prop)(x:s.ty):Prop:=aS m b o=some (s.mk x).v/\k (.c (s.mk x))
def Zz{t:Nat}:UW T m t b o k=match jx T t with
 |some ⟨.struct _,a,_⟩=>ldC m b o 0 a (aaR k)
 |some ⟨.cell,[s],_⟩=>Yt s (klc m b o s k)
 |some ⟨.slice _,[_],_⟩=>∃x:E,aS m b o=some x.v/\k (.c (.s x))
 |_=>False:=rfl
def ile{b:Int}:Int.le a b=(a<=b):=rfl
def khi(s:E)(z:Nat)(l:Int)(k:SV->Prop)(h:Int):Prop:=Int.le 0 l/\Int.le l h/\Int.le h (nc s.cap)/\k (.c (.s (s.cut l.toNat h.toNat z)))
def klo(p:Fr)(a:Option Operand)(s:E)(z:Nat)(k:SV->Prop)(l:Int):Prop:=Ry p a (nc s.len) (khi s z l k)
def adN{f:Nat}{mk:Nat->SV}:Kc T t f o mk k=match jx T t with
 |some ⟨.struct c,_,_⟩=>match Mi c f with
  |some (a,u)=>match jx T u with
   |some b=>bif b.yS||Nat.beq b.sh.length 0 then False else bif a==0 then k (mk o)else k (mk (o+a))
   |none=>False
  |none=>False
 |_=>False:=by
 have h:∀a,(bif a==0 then k (mk o)else k (mk (o+a)))=k (mk (o+a)):=cB
 simp only[h];rfl
def abA{s:E}{n:Int}:ac9 T t s n k=match jx T t with
 |some ⟨.slice e,_,_⟩=>match jx T e with
  |some a=>bif a.yS then False else Int.le 0 n/\n<nc s.len/\k (.c (.p s.bz (s.off+n.toNat*a.sh.length)))
  |none=>False
 |_=>False:=rfl
def Xu{s:E}{b a:Option Operand}:WU T p t s b a k=match jx T t with
 |some ⟨.slice e,_,_⟩=>match jx T e with
  |some c=>bif c.yS then False else Ry p b 0 (klo p a s c.sh.length k)
  |none=>False
 |_=>False:=rfl
def Xr:rd T p m k (.build t g)=match jx T t with
 |some ⟨.struct a,b,_⟩=>bif zB T a then J4 T p a (b.map Sh.zero) g.toList (aaR k)else False
 |_=>False:=rfl
def kxc(s:Sh)(r:aA)(k:ae->Prop)(x:s.ty):Prop:=exC r (XA (s.mk x) k)
def aby{k:ae->Prop}:exC (s::r) k=Yt s (kxc s r k):=rfl
def kav(a:AV)(k:aH->Prop)(l:aH):Prop:=k (a::l)
def kxt(T:TT)(r:ad)(k:aH->Prop)(l:ae):Prop:=Yu T r (kav (.agg l) k)
def kxs(T:TT)(s:Sh)(r:ad)(k:aH->Prop)(x:s.ty):Prop:=Yu T r (kav (.c (s.mk x)) k)
def abz{r:ad}{k:aH->Prop}:Yu T (t::r) k=match jx T t with
 |some ⟨.struct _,a,_⟩=>exC a (kxt T r k)
 |some ⟨.cell,[s],_⟩=>Yt s (kxs T s r k)
 |some ⟨.slice _,[_],_⟩=>∃x:E,Yu T r (kav (.c (.s x)) k)
 |_=>False:=rfl
def krt(v:Value)(k:SV->Prop)(l:aH):Prop:=v=.tuple (l.map AV.v).toArray/\k (.tup l)
def krs(v:Value)(k:SV->Prop)(l:ae):Prop:=v=.agg (l.map Ce.v).toArray/\k (.agg l)
def krc(v:Value)(s:Sh)(k:SV->Prop)(x:s.ty):Prop:=v=(s.mk x).v/\k (.c (s.mk x))
def abI:U8 T t v k=match jx T t with
 |some ⟨.tuple [],_,_⟩=>k .jO
 |some ⟨.tuple a,_,_⟩=>Yu T a (krt v k)
 |some ⟨.struct _,a,_⟩=>exC a (krs v k)
 |some ⟨.cell,[s],_⟩=>Yt s (krc v s k)
 |some ⟨.slice _,[_],_⟩=>∃x:E,v=x.v/\k (.c (.s x))
 |_=>False:=rfl
def aaS(k:Fr->SV->bg->Prop)(p:Fr)(m:bg)(x:SV):Prop:=k p x m
def inG(G:ad)(g:Nat):Prop:=G.elem g=true
def ad0{G:ad}{g:Nat}:inG G g=(G.elem g=true):=rfl
def nz(b:Int):Prop:=b≠0
def nze{b:Int}:nz b=(b≠0):=rfl
def abF{b:Int}:vC .quo a b k=(nz b/\k (.c (.i (eJ (a.tdiv b))))):=rfl
def abH{b:Int}:vC .rem a b k=(nz b/\k (.c (.i (a.tmod b)))):=rfl
def Zw{c:Nat}{f:Operand}{a:aD}{k:Fr->SV->bg->Prop}:Zo P T G n p m c f a k=match ZE p (a.map (ev p))with
 |none=>False
 |some u=>match ev p f with
  | .c (.fn (.func g) first b)=>bif G.elem g&&a.all (λx=>(ev p x).mT)then
   bK P g (first.toList++(a.map λx=>(ev p x).v)++b.toList) m λv q=>EK (Re n u []) m q (U8 T c v (aaS k u q))
   else False
  | .c (.fv b)=>bif a.all (λx=>(ev p x).mT)then
   ∃g,b.1=.func g/\inG G g/\bK P g (b.2.1.toList++(a.map λx=>(ev p x).v)++b.2.2.toList) m λv q=>EK (Re n u []) m q (U8 T c v (aaS k u q))
   else False
  |_=>False:=rfl
def p3(m:bg)(k:Fr->SV->bg->Prop)(p:Fr)(x:SV):Prop:=k p x m
def p2(m:bg)(k:SV->bg->Prop)(x:SV):Prop:=k x m
def ZB{k:Fr->SV->bg->Prop}:YA n p none m t l k=Ts (m.push (.cells (db l) t)) λq=>p3 q k p (.c (.p m.size 0)):=rfl
def ZC{j:Nat}{k:Fr->SV->bg->Prop}:YA n p (some j) m t l k=match kM p (n+j)with
 | .DZ _ _ _=>False
 |_=>Ts (m.push (.cells (db l) t)) λq=>p3 q k ((n+j,.box m.size t l)::p) (.c (.bp (n+j) m.size 0)):=rfl
def adS{x:SV}{k:Fr->SV->bg->Prop}:TP n p m x l k=match x with
 | .c (.p b o)=>jb m b o l.length/\Ts (aV m b o l) λq=>EK (Re n p []) m q (k p .un q)
 | .c (.bp d b o)=>match kM p d with
  | .box a e c=>bif Nat.ble (o+l.length) c.length then OZ a b (Ts (aV m b o l) λq=>p3 q k ((d,.box a e (kJ c o l))::p) .un)else False
  | .DZ _ _ _=>False
  |_=>jb m b o l.length/\Ts (aV m b o l) λq=>EK (Re n p []) m q (k p .un q)
 |_=>False:=rfl
def adR{b:Nat}{k:Fr->SV->bg->Prop}:wr P T G n p m d b k (.makeSlice t x y)=match jx T t,ev p x,ev p y with
 |some ⟨.slice e,_,_⟩,.c (.i l),.c (.i c)=>match jx T e with
  |some a=>bif a.yS then False else Int.le 0 l/\Int.le l c/\Int.le (nc a.bytes*c) 281474976710656/\Int.le c 9223372036854775807/\
   Ts (m.push (.cells (db (na (a.sh.map Sh.zero) c.toNat)) e)) λq=>p3 q k p (.c (.s (.mk m.size 0 l.toNat c.toNat)))
  |none=>False
 |_,_,_=>False:=rfl
def adQ{a:Nat}{k:Fr->SV->bg->Prop}:wr P T G n p m d a k (.makeMap t none)=Ts (m.push (.map #[] 0)) λq=>p3 q k p (.c (.mp m.size)):=rfl
def abx{z:Nat}{s x:E}{k:SV->bg->Prop}:ac0 m z s x k=∃a:ae,a.length=Nat.min x.len s.len*z/\jG m x.bz x.off a/\jb m s.bz s.off a.length/\
 Ts (aV m s.bz s.off a) λq=>p2 q k (.c (.i (nc (Nat.min x.len s.len)))):=rfl
def kbs(p:Fr)(m:bg)(e a:Nat)(k:Fr->SV->bg->Prop)(l:ae):Prop:=match J9 p l with
 |some u=>Ts (m.push (.cells (db l) e)) λq=>p3 q k u (.c (.s (.mk m.size 0 a a)))
 |none=>False
def adM{c a:Nat}{k:Fr->SV->bg->Prop}:wr P T G n p m d c k (.buildSlice t a g)=match jx T t with
 |some ⟨.slice e,_,_⟩=>match jx T e with
  |some b=>bif b.yS||!(Nat.ble (a*b.sh.length) 16777216)then False else
   BA T p b.sh.length (na (b.sh.map Sh.zero) a) g.toList (kbs p m e a k)
  |none=>False
 |_=>False:=rfl
def kcp(n:Nat)(p:Fr)(m:bg)(k:Fr->SV->bg->Prop)(x:SV)(q:bg):Prop:=EK (Re n p []) m q (k p x q)
def Zx{b:Nat}{u:Nat}{c:ad}{k:Fr->SV->bg->Prop}:wr P T G n p m d b k (.call ⟨.builtin .copy,⟨[x,y]⟩,⟨u::c⟩⟩)=match jx T u,ev p x,ev p y with
 |some ⟨.slice e,_,_⟩,.c (.s s),.c (.s z)=>match jx T e with
  |some a=>bif a.yS then False else ac0 m a.sh.length s z (kcp n p m k)
  |none=>False
 |_,_,_=>False:=rfl
def kw(P:Program)(T:TT)(G:ad)(n:Nat)(e:ar)(d:Option Nat)(kO:ar)(k:Fr->bg->Prop)(p:Fr)(x:SV)(m:bg):Prop:=wy P T G n e kO (yr p d x) m k
def kr(P:Program)(T:TT)(G:ad)(n:Nat)(e:ar)(d:Option Nat)(kO:ar)(k:Fr->bg->Prop)(p:Fr)(m:bg)(x:SV):Prop:=wy P T G n e kO (yr p d x) m k
def ky(P:Program)(T:TT)(G:ad)(n:Nat)(e:ar)(o:Oper)(kO:ar)(k:Fr->bg->Prop)(m:bg)(p:Fr):Prop:=
 bif P2 o.op then wr P T G n p m o.dst o.type (kw P T G n e o.dst kO k) o.op else rd T p m (kr P T G n e o.dst kO k p m) o.op
def kn(P:Program)(T:TT)(G:ad)(n:Nat)(e:ar)(d:Option Nat)(kO:ar)(k:Fr->bg->Prop)(m:bg)(p:Fr):Prop:=wy P T G n e kO (yr p d .un) m k
def abE{o:Oper}{kO:ar}{k:Fr->bg->Prop}:wy P T G n e (o::kO) p m k=
 bif wh n o.dst then gd e p o.guard (ky P T G n e o kO k m) (kn P T G n e o.dst kO k m)else False:=rfl
abbrev LL:=List (Nat×ao)
def dr1(P:Program)(T:TT)(G:ad)(n:Nat)(e:ar)(c a:ad)(b done:Nat)(o:Oper)(i:Nat)(m:bg)(L:LL)(k:Fr->bg->Prop)(p:Fr)(x:SV):Prop:=
 sP P T G n e c a b (done|||2^i) (yr p o.dst x) m ((i,YX T p o.op)::L) k
def dry(P:Program)(T:TT)(G:ad)(n:Nat)(e:ar)(c a:ad)(b done:Nat)(o:Oper)(i:Nat)(m:bg)(L:LL)(k:Fr->bg->Prop)(p:Fr):Prop:=
 rd T p m (dr1 P T G n e c a b done o i m L k p) o.op
def drn(P:Program)(T:TT)(G:ad)(n:Nat)(e:ar)(c a:ad)(b done:Nat)(o:Oper)(i:Nat)(m:bg)(L:LL)(k:Fr->bg->Prop)(p:Fr):Prop:=
 sP P T G n e c a b (done|||2^i) (yr p o.dst .un) m L k
def dr2(P:Program)(T:TT)(G:ad)(n:Nat)(e:ar)(c a:ad)(b done:Nat)(o:Oper)(i:Nat)(m:bg)(L:LL)(k:Fr->bg->Prop)(p:Fr)(x:SV)(q:bg):Prop:=
 Ih (yx a i) m q L (sP P T G n e c a b (done|||2^i) (yr p o.dst x) q L k)
def dwy(P:Program)(T:TT)(G:ad)(n:Nat)(e:ar)(c a:ad)(b done:Nat)(o:Oper)(i:Nat)(m:bg)(L:LL)(k:Fr->bg->Prop)(p:Fr):Prop:=
 wr P T G n p m o.dst o.type (dr2 P T G n e c a b done o i m L k) o.op
def dra(P:Program)(T:TT)(G:ad)(n:Nat)(e:ar)(c a:ad)(b done:Nat)(m:bg)(L:LL)(k:Fr->bg->Prop)(p:Fr)(i:Nat):Prop:=match Mi e i with
 |some o=>bif wh n o.dst then gd e p o.guard (dwy P T G n e c a b done o i m L k) (drn P T G n e c a b done o i m L k)else False
 |none=>False
def Zy{a b:ad}{c done:Nat}{L:LL}{k:Fr->bg->Prop}:sP P T G n e a b (c+1) done p m L k=match Bh done 0 e a with
 |some i=>match Mi e i with
  |some o=>bif wh n o.dst then gd e p o.guard (dry P T G n e a b c done o i m L k) (drn P T G n e a b c done o i m L k)else False
  |none=>False
 |none=>match tS done 0 e a with
  |[]=>k p m
  |d=>SN d (dra P T G n e a b c done m L k p):=rfl
def Zu{f:Nat->Prop}:SN [i] f=f i:=rfl
def Zv{r:ad}{f:Nat->Prop}:SN (i::j::r) f=(f i/\SN (j::r) f):=rfl
def kq(Q:Exit->Fr->bg->Prop)(p:Fr)(m:bg):Prop:=Q .normal p m
def abG{e:Array Oper}{a:Bool}:vc P T G n A (.region i e a) p m Q=
 bif a then sP P T G n e.toList (pmG e.toList) (Zm [] e.toList) e.toList.length 0 p m [] (kq Q)
 else wy P T G n e.toList e.toList p m (kq Q):=rfl
def kal(t:Nat)(s:Sh)(r:aw)(I:s.ty->LG r)(p:Fr)(k:Fr->(bg->Prop)->Prop)(x:s.ty):Prop:=Uk r (I x) ((t,.c (s.mk x))::p) k
def abu{r:aw}{I:s.ty->LG r}{k:Fr->(bg->Prop)->Prop}:Uk ((t,s)::r) I p k=alS s (kal t s r I p k):=rfl
def kam(t:Nat)(s:Sh)(r:aw)(I:s.ty->LG r)(μ:s.ty->SJ r)(p:Fr)(k:Fr->(bg->Prop)->(bg->Nat)->Prop)(x:s.ty):Prop:=Ul r (I x) (μ x) ((t,.c (s.mk x))::p) k
def abv{r:aw}{I:s.ty->LG r}{μ:s.ty->SJ r}{k:Fr->(bg->Prop)->(bg->Nat)->Prop}:Ul ((t,s)::r) I μ p k=alS s (kam t s r I μ p k):=rfl
def ks(P:Program)(T:TT)(G:ad)(n:Nat)(A:T8)(b:Code)(Q:Exit->Fr->bg->Prop):Exit->Fr->bg->Prop
 | .normal,u,q=>vc P T G n A b u q Q
 |e,u,q=>Q e u q
def kc(A:T8)(b:Code)(p:Fr)(l:aw)(K:LG l)(Q:Exit->Fr->bg->Prop):Exit->Fr->bg->Prop
 | .normal,u,q=>eqK p u (eO A b) (LJ l K u q)
 |e,u,q=>Q e u q
def ki(P:Program)(T:TT)(G:ad)(n:Nat)(A:T8)(b:Code)(Q:Exit->Fr->bg->Prop)(u:Fr)(a:bg->Prop):Prop:=∀q,a q->vc P T G n A b u q Q
def abJ{a b:Code}:vc P T G n A (.seq a b) p m Q=match lkH A.aaM b with
 |none=>vc P T G n A a p m (ks P T G n A b Q)
 |some l=>bif tX (tm a) l then∃K:LG l,vc P T G n A a p m (kc A b p l K Q)/\
  Uk l K (rK (tm a) (yN n (eO A b) p)) (ki P T G n A b Q)else False:=by
 unfold ks kc ki;rfl
def kb(i:Nat)(Q:Exit->Fr->bg->Prop):Exit->Fr->bg->Prop
 | .exit j,u,q=>bif Nat.beq j i then Q .normal u q else Q (.exit j) u q
 |e,u,q=>Q e u q
def Xq:vc P T G n A (.block i c) p m Q=vc P T G n A c p m (kb i Q):=by
 unfold kb;rfl
def ke(A:T8)(c:Code)(p:Fr)(l:aw)(I:LG l)(μ:SJ l)(N:Nat)(Q:Exit->Fr->bg->Prop):Exit->Fr->bg->Prop
 | .normal,a,b=>eqK p a (eO A c) (SS l I μ a b N)
 |e,a,b=>Q e a b
def kl(P:Program)(T:TT)(G:ad)(n:Nat)(A:T8)(c:Code)(p:Fr)(l:aw)(I:LG l)(μ:SJ l)(Q:Exit->Fr->bg->Prop)(u:Fr)(a:bg->Prop)(μ':bg->Nat):Prop:=
 ∀q,a q->vc P T G n A c u q (ke A c p l I μ (μ' q) Q)
def ZA:vc P T G n A (.loop c) p m Q=match lkH A.ZT c with
 |none=>False
 |some l=>bif tX (tm c) l then∃(I:LG l)(μ:SJ l),LJ l I p m/\
  Ul l I μ (rK (tm c) (yN n (eO A c) p)) (kl P T G n A c p l I μ Q)else False:=by
 unfold kl ke;rfl
def kR(m:bg)(R:aj)(l:aB):Prop:=match l with
 |[x]=>R x.v m
 |l=>R (.tuple (l.map SV.v).toArray) m
def kx(x:SV)(k:aB->Prop)(l:aB):Prop:=k (x::l)
def kz(T:TT)(p:Fr)(m:bg)(r:ay)(k:aB->Prop)(x:SV):Prop:=bif x.mT then KK T p m r (kx x k)else False
def Xs{r:ay}{k:aB->Prop}:KK T p m (.tmp t::r) k=bif (kM p t).mT then KK T p m r (kx (kM p t) k)else False:=rfl
def Xt{a:Nat}{r:ay}{k:aB->Prop}:KK T p m (.cell a t::r) k=rd T p m (kz T p m r k) (.load t (.tmp a)):=rfl
def kf(T:TT)(a:ay)(R:aj):Exit->Fr->bg->Prop
 | .normal,p,m=>KK T p m a (kR m R)
 | .ret,p,m=>KK T p m a (kR m R)
 |_,_,_=>False
def adO{b:ay}{a:aB}{R:aj}:YR P T G A n b c a m R=vc P T G n A c (yM 0 a) m (kf T b R):=by
 unfold kf kR;rfl
end
def Tg(_:Prop):Type:=Prop
def Tg.p{q:Prop}(t:Tg q):Prop:=t
def Tg.lf(q:Prop):Tg q:=q
def Tg.pm{a b:Prop}{h:Tg a=Tg b}:Tg.p (Eq.mpr h (Tg.lf b))=b:=rfl
def rg1:List.range 1=[0]:=rfl
def rg2:List.range 2=[0,1]:=rfl
def rg3:List.range 3=[0,1,2]:=rfl
def rg4:List.range 4=[0,1,2,3]:=rfl
def rg5:List.range 5=[0,1,2,3,4]:=rfl
def rg6:List.range 6=[0,1,2,3,4,5]:=rfl
def rg7:List.range 7=[0,1,2,3,4,5,6]:=rfl
def Tg.pm2{a b c:Prop}{h:Tg a=Tg b}{d:Tg b=Tg c}:Tg.p (Eq.mpr h (Eq.mpr d (Tg.lf c)))=c:=rfl
def Wi(_ _:Prop):Type:=Unit
def mkT{a X:Prop}(_:Wi a X)(t:Tg a)(_:t.p=X):True:=trivial
end
end Go.Vc
namespace Go.Proofs.YtbbbdejieenniaaGreat
open Go.Vc
section
noncomputable abbrev dO:=Tryz.prog
def TBL:TT:=[(0,⟨.tuple [],[],0⟩),
 (3,⟨.cell,[.I],8⟩),
 (4,⟨.cell,[.T],1⟩),
 (5,⟨.cell,[(.U .u8)],1⟩),
 (22,⟨.slice 5,[.S],24⟩),
 (23,⟨.slice 100,[.S],24⟩),
 (24,⟨.slice 71,[.S],24⟩),
 (26,⟨.struct [(0,23),(1,24)],[.S,.S],48⟩),
 (27,⟨.tuple [26,3],[],0⟩),
 (29,⟨.slice 3,[.S],24⟩),
 (31,⟨.struct [(0,3),(1,3),(2,3),(3,29)],[.I,.I,.I,.S],48⟩),
 (32,⟨.tuple [31,4],[],0⟩),
 (36,⟨.tuple [26,4],[],0⟩),
 (40,⟨.struct [(0,3),(1,3),(2,3),(3,3),(4,3),(5,3),(6,3),(7,3)],[.I,.I,.I,.I,.I,.I,.I,.I],64⟩),
 (41,⟨.tuple [40,4],[],0⟩),
 (44,⟨.slice 57,[.S],24⟩),
 (45,⟨.slice 52,[.S],24⟩),
 (47,⟨.struct [(0,3),(1,3),(2,3),(3,3),(4,29),(5,44),(6,45)],[.I,.I,.I,.I,.S,.S,.S],104⟩),
 (48,⟨.tuple [47,4],[],0⟩),
 (52,⟨.struct [(0,3),(1,3),(2,3),(3,29),(4,29),(5,29)],[.I,.I,.I,.S,.S,.S],96⟩),
 (57,⟨.struct [(0,3),(1,3),(2,29)],[.I,.I,.S],40⟩),
 (61,⟨.struct [(0,26),(2,3),(3,47)],[.S,.S,.I,.I,.I,.I,.I,.S,.S,.S],160⟩),
 (65,⟨.slice 80,[.S],24⟩),
 (66,⟨.tuple [65,4],[],0⟩),
 (69,⟨.slice 73,[.S],24⟩),
 (71,⟨.struct [(0,29),(1,29),(2,3),(3,3),(4,69)],[.S,.S,.I,.I,.S],88⟩),
 (73,⟨.struct [(0,3),(1,3),(2,3),(3,3),(4,29),(5,29)],[.I,.I,.I,.I,.S,.S],80⟩),
 (80,⟨.cell,[.Q],8⟩),
 (82,⟨.slice 86,[.S],24⟩),
 (84,⟨.struct [(0,82),(1,29)],[.S,.S],48⟩),
 (86,⟨.struct [(0,3),(1,3),(2,4),(3,3),(4,3),(5,3)],[.I,.I,.T,.I,.I,.I],48⟩),
 (88,⟨.cell,[.P],8⟩),
 (92,⟨.slice 144,[.S],24⟩),
 (94,⟨.struct [(0,23),(1,92)],[.S,.S],48⟩),
 (95,⟨.tuple [94,4],[],0⟩),
 (98,⟨.slice 136,[.S],24⟩),
 (100,⟨.struct [(0,3),(1,3),(2,98)],[.I,.I,.S],40⟩),
 (102,⟨.cell,[.P],8⟩),
 (103,⟨.cell,[.P],8⟩),
 (107,⟨.slice 164,[.S],24⟩),
 (109,⟨.struct [(0,23),(1,107)],[.S,.S],48⟩),
 (113,⟨.cell,[.P],8⟩),
 (115,⟨.struct [(0,26),(2,47)],[.S,.S,.I,.I,.I,.I,.S,.S,.S],152⟩),
 (118,⟨.struct [(0,94),(2,71),(7,65)],[.S,.S,.S,.S,.I,.I,.S,.S],160⟩),
 (121,⟨.cell,[.F],8⟩),
 (124,⟨.cell,[.P],8⟩),
 (126,⟨.cell,[.P],8⟩),
 (128,⟨.struct [(0,3),(1,3),(2,3),(3,3),(4,3),(5,3),(6,3),(7,3)],[.I,.I,.I,.I,.I,.I,.I,.I],64⟩),
 (129,⟨.tuple [3,3],[],0⟩),
 (136,⟨.struct [(0,29)],[.S],24⟩),
 (139,⟨.struct [(0,22),(1,3)],[.S,.I],32⟩),
 (144,⟨.struct [(0,29),(1,29),(2,3)],[.S,.S,.I],56⟩),
 (149,⟨.tuple [29,29],[],0⟩),
 (155,⟨.slice 57,[.S],24⟩),
 (160,⟨.slice 162,[.S],24⟩),
 (162,⟨.struct [(0,3),(1,3),(2,160)],[.I,.I,.S],40⟩),
 (164,⟨.struct [(0,29),(1,3),(2,162)],[.S,.I,.I,.I,.S],72⟩),
 (167,⟨.cell,[.P],8⟩),
 (178,⟨.tuple [29,4],[],0⟩),
 (183,⟨.slice 216,[.S],24⟩),
 (185,⟨.struct [(0,23),(1,183)],[.S,.S],48⟩),
 (191,⟨.tuple [3,4],[],0⟩),
 (193,⟨.cell,[.F],8⟩),
 (195,⟨.cell,[.P],8⟩),
 (212,⟨.slice 239,[.S],24⟩),
 (214,⟨.struct [(0,212),(1,3)],[.S,.I],32⟩),
 (216,⟨.struct [(0,29),(1,29),(2,3),(3,214)],[.S,.S,.I,.S,.I],88⟩),
 (217,⟨.cell,[.P],8⟩),
 (219,⟨.struct [(0,69)],[.S],24⟩),
 (228,⟨.tuple [3,136],[],0⟩),
 (230,⟨.map 3 3,[.M],8⟩),
 (237,⟨.slice 214,[.S],24⟩),
 (239,⟨.struct [(0,3),(1,3),(2,3),(3,29),(4,237)],[.I,.I,.I,.S,.S],72⟩),
 (242,⟨.cell,[.P],8⟩),
 (243,⟨.tuple [242,4],[],0⟩),
 (246,⟨.struct [(0,29),(1,29),(2,29),(3,29),(4,29),(5,29),(6,29)],[.S,.S,.S,.S,.S,.S,.S],168⟩),
 (254,⟨.tuple [100,4],[],0⟩),
 (258,⟨.cell,[.F],8⟩),
 (277,⟨.slice 29,[.S],24⟩),
 (293,⟨.cell,[.P],8⟩),
 (295,⟨.struct [(0,212),(1,3)],[.S,.I],32⟩)]
abbrev Vs:Nat:=22
abbrev fm:Nat:=214
abbrev wT:Nat:=57
abbrev tc:Nat:=136
abbrev mZ:Nat:=100
abbrev dw:Nat:=162
abbrev iu:Nat:=52
abbrev jf:Nat:=164
abbrev uT:Nat:=26
abbrev fA:Nat:=73
abbrev qU:Nat:=185
abbrev nW:Nat:=71
abbrev nI:Nat:=109
abbrev mP:Nat:=216
abbrev mg:Nat:=47
abbrev jQ:Nat:=239
abbrev ig:Nat:=155
abbrev zO:Nat:=84
abbrev cQ:Nat:=61
abbrev rp:Nat:=86
abbrev ud:Nat:=144
abbrev pH:Nat:=94
abbrev jg:Nat:=118
abbrev bB:Nat:=3
abbrev Cn:Nat:=29
abbrev nJ:Nat:=80
abbrev vW:Nat:=219
abbrev FX:Nat:=246
abbrev rq:Nat:=295
abbrev dD:Nat:=115
abbrev ue:Nat:=139
abbrev aai:Nat:=5
def Q4:yJ dO TBL:=by
 unfold yJ;kernel_rfl
def GL:ad:=List.range' 3 344
def gok:GOK dO GL:=by
 unfold GOK;kernel_rfl
def mix:dO.follows .mixedOrders=true:=by kernel_rfl
def nbq(a b:Nat):Nat.beq a b=(a==b):=by rw[NR];simp
def nbl(a b:Nat):Nat.ble a b=(a -b==0):=by rw[NR];simp;omega
def nbt(a b:Nat):Nat.blt a b=(a+1 -b==0):=by rw[NR];simp[Nat.blt];omega
def gel(g:Nat):List.elem g GL=(3 -g==0&&(g -346==0)):=by rw[NR];simp[GL];omega
section
variable{α β:Type}{a:α}{b:β}
def atl(l:List α):(Array.mk l).toList=l:=rfl
end
section
variable(a b c d e f)
def o1:(Oper.mk a b c d e f).dst=a:=rfl
def o2:(Oper.mk a b c d e f).op=b:=rfl
def o3:(Oper.mk a b c d e f).type=c:=rfl
def o5:(Oper.mk a b c d e f).after=e:=rfl
def o6:(Oper.mk a b c d e f).guard=f:=rfl
end
section
variable(a b c)
def a2:(T8.mk a b c).ZT=a:=rfl
def a3:(T8.mk a b c).aaM=b:=rfl
def a4:(T8.mk a b c).fR=c:=rfl
def t1:(TI.mk a b c).Mc=a:=rfl
def t2:(TI.mk a b c).sh=b:=rfl
def t3:(TI.mk a b c).bytes=c:=rfl
def g1:(Edge.mk a b).on=a:=rfl
def g2:(Edge.mk a b).ground=b:=rfl
end
def A0:T8:=⟨[],[],[]⟩
def cI(x:Int):SV:=.c (.i x)
def cS(x:E):SV:=.c (.s x)
def cP(x:ai):SV:=.c (.p x.1 x.2)
instance:Coe Int SV:=⟨cI⟩
instance:Coe E SV:=⟨cS⟩
instance:Coe (Nat×Nat) SV:=⟨cP⟩
instance:Coe Int Ce:=⟨.i⟩
instance:Coe E Ce:=⟨.s⟩
def oV(n:Nat){x:TI}(h:jx TBL n=some x:=by cbv):jx TBL n=some x:=h
def tg0:=oV 0
def tg3:=oV 3
def tg4:=oV 4
def tg5:=oV 5
def aee:=oV 22
def aef:=oV 23
def aeg:=oV 24
def aeh:=oV 26
def aei:=oV 27
def aej:=oV 29
def aek:=oV 31
def ael:=oV 32
def aem:=oV 36
def aen:=oV 40
def aeo:=oV 41
def aep:=oV 44
def aeq:=oV 45
def aer:=oV 47
def aes:=oV 48
def aet:=oV 52
def aeu:=oV 57
def aev:=oV 61
def aew:=oV 65
def aex:=oV 66
def aey:=oV 69
def aez:=oV 71
def aeA:=oV 73
def aeB:=oV 80
def aeC:=oV 82
def aeD:=oV 84
def aeE:=oV 86
def aeF:=oV 88
def aeG:=oV 92
def aeH:=oV 94
def aeI:=oV 95
def aeJ:=oV 98
def abW:=oV 100
def abX:=oV 102
def abY:=oV 103
def abZ:=oV 107
def ab0:=oV 109
def ab1:=oV 113
def ab2:=oV 115
def ab3:=oV 118
def ab4:=oV 121
def ab5:=oV 124
def ab6:=oV 126
def ab7:=oV 128
def ab8:=oV 129
def ab9:=oV 136
def aca:=oV 139
def acb:=oV 144
def acd:=oV 149
def ace:=oV 155
def acf:=oV 160
def acg:=oV 162
def ach:=oV 164
def aci:=oV 167
def acj:=oV 178
def ack:=oV 183
def acm:=oV 185
def acn:=oV 191
def aco:=oV 193
def acp:=oV 195
def acq:=oV 212
def acr:=oV 214
def acs:=oV 216
def acu:=oV 217
def acv:=oV 219
def acw:=oV 228
def acx:=oV 230
def acy:=oV 237
def acz:=oV 239
def acA:=oV 242
def acB:=oV 243
def acC:=oV 246
def acD:=oV 254
def acE:=oV 258
def acF:=oV 277
def acG:=oV 293
def acH:=oV 295
def eK(m:bg)(R:aj)(A:T8)(a:aB){f:FuncId}{b:Go.Func}{X:Prop}{c:Code}{n:Nat}{e:ay}{g:ap}(k:dO.funcs[f]? =some b)
 (d:(b.body,b.ntmps,b.results)=(some c,n,Array.mk e):=by cbv)
 (i:a.all SV.mT=true:=by kernel_rfl)(l:Nat.ble a.length n=true:=by kernel_rfl)(hd:uq c=true:=by kernel_rfl)
 (o:a.map SV.v=g:=by dsimp only[List.map,cI,cS,cP,SV.v,Ce.v])
 (w:Wi (YR dO TBL GL A n e c a m R) X->True:=by intro w;obtain - :=mkT w (by sym -abstractProof=>simp[gel,A0.eq_1,cI.eq_1,cS.eq_1,cP.eq_1,tg0,tg3,tg4,tg5,aee,aef,aeg,aeh,aei,aej,aek,ael,aem,aen,aeo,aep,aeq,aer,aes,aet,aeu,aev,aew,aex,aey,aez,aeA,aeB,aeC,aeD,aeE,aeF,aeG,aeH,aeI,aeJ,abW,abX,abY,abZ,ab0,ab1,ab2,ab3,ab4,ab5,ab6,ab7,ab8,ab9,aca,acb,acd,ace,acf,acg,ach,aci,acj,ack,acm,acn,aco,acp,acq,acr,acs,acu,acv,acw,acx,acy,acz,acA,acB,acC,acD,acE,acF,acG,acH,nbq,nbl,nbt,atl,o1,o2,o3,o5,o6,a2,a3,a4,t1,t2,t3,g1,g2,eM,ji,eT,iA,SH,List.all_nil,dz,kU,List.elem_cons,Bool.true_and,Bool.false_and,abn,abl,Bool.true_or,abm,aar,Bool.and_true,vy,Option.map_none,ni,vY,VB,List.flatMap_nil,List.isEmpty_cons,List.isEmpty_nil,List.any_cons,VA,mC,RT,yM.eq_1,yM.eq_2,vc.eq_1,vc.eq_4,vc.eq_6,vc.eq_7,vc.eq_8,yU.eq_def,orT.eq_def,orB.eq_def,uQ.eq_1,uQ.eq_2,Qr.eq_def,eqK.eq_1,eqK.eq_2,yN.eq_1,HP.eq_1,HP.eq_2,eO.eq_1,tX.eq_1,tX.eq_2,tm.eq_def,rK.eq_1,rK.eq_2,Ul.eq_1,Uk.eq_1,SS.eq_1,SS.eq_2,LJ.eq_1,LJ.eq_2,Wm.eq_def,lkH.eq_1,HU.eq_def,lk.eq_1,lk.eq_2,sP.eq_1,Ih.eq_1,Ih.eq_2,QB.eq_1,QB.eq_2,tS.eq_def,Bh.eq_def,nQ.eq_1,sq.eq_1,sq.eq_2,oO.eq_1,yx.eq_1,yx.eq_2,yx.eq_3,wy.eq_1,Ec.eq_1,Ec.eq_2,gd.eq_1,gd.eq_2,PW.eq_1,wh.eq_1,wh.eq_2,P2.eq_def,wr.eq_1,wr.eq_2,wr.eq_4,wr.eq_6,wr.eq_8,wr.eq_9,wr.eq_10,wr.eq_11,BA.eq_1,BA.eq_2,Yu.eq_1,exC.eq_1,Re.eq_def,EK.eq_def,rd.eq_1,rd.eq_2,rd.eq_3,rd.eq_4,rd.eq_5,rd.eq_6,rd.eq_7,rd.eq_8,rd.eq_9,rd.eq_10,rd.eq_11,rd.eq_12,rd.eq_13,rd.eq_15,YX.eq_def,abB,abC,abD,Sb.eq_1,Ly.eq_1,Ly.eq_2,Te.eq_1,Ry.eq_1,Ry.eq_2,zB.eq_1,zB.eq_2,J4.eq_1,J4.eq_2,qO.eq_1,qO.eq_2,qO.eq_3,qO.eq_4,qO.eq_5,SV.cells.eq_def,unO.eq_def,aaU.eq_def,aaE.eq_def,vC.eq_1,vC.eq_2,vC.eq_3,vC.eq_6,vC.eq_7,vC.eq_8,vC.eq_9,vC.eq_10,vC.eq_11,vC.eq_12,abF,abH,ldC.eq_1,Mi.eq_1,Mi.eq_2,Mi.eq_3,oL.eq_def,SV.mT.eq_def,TI.yS.eq_1,TI.agg.eq_1,Sh.zero.eq_1,Sh.zero.eq_2,Sh.zero.eq_3,Sh.zero.eq_4,Sh.zero.eq_5,Sh.zero.eq_6,Sh.zero.eq_7,ev.eq_1,ev.eq_2,ev.eq_3,ev.eq_4,J8.eq_def,tE.eq_1,tE.eq_2,nL.eq_1,nL.eq_3,nL.eq_4,nL.eq_5,nL.eq_6,nL.eq_7,yr.eq_1,yr.eq_2,SV.nb.eq_def,kM.eq_1,kM.eq_2,AV.sv.eq_1,AV.sv.eq_2,SV.v.eq_1,SV.v.eq_2,SV.v.eq_3,SV.v.eq_4,SV.v.eq_5,SV.v.eq_6,SV.v.eq_7,SV.v.eq_8,SV.v.eq_9,AV.v.eq_1,AV.v.eq_2,Ce.v.eq_1,Ce.v.eq_2,Ce.v.eq_3,Ce.v.eq_4,Ce.v.eq_5,Ce.v.eq_6,Ce.v.eq_7,Ce.v.eq_8,Ce.v.eq_9,Ce.v.eq_10,Ce.v.eq_11,Ce.v.eq_12,Ce.v.eq_13,By.eq_1,By.eq_2,ZE.eq_1,J9.eq_def,kJ.eq_1,kJ.eq_2,LG.eq_1,LG.eq_2,SJ.eq_1,SJ.eq_2,Sh.ty.eq_1,Sh.ty.eq_2,Sh.ty.eq_3,Sh.ty.eq_4,Sh.ty.eq_5,Sh.ty.eq_6,Sh.ty.eq_7,Sh.mk.eq_1,Sh.mk.eq_2,Sh.mk.eq_3,Sh.mk.eq_4,Sh.mk.eq_5,Sh.mk.eq_6,Sh.mk.eq_7,Pz.eq_1,SV.ces.eq_def,AV.ces.eq_1,AV.ces.eq_2,KK.eq_1,pmG.eq_1,pmG.eq_2,Zm.eq_1,Zm.eq_2,kld.eq_1,klc.eq_1,kxc.eq_1,kxs.eq_1,krc.eq_1,kal.eq_1,kam.eq_1,pa.eq_1,p3.eq_1,p2.eq_1,XA.eq_1,aaR.eq_1,khi.eq_1,klo.eq_1,kav.eq_1,kxt.eq_1,krt.eq_1,krs.eq_1,aaS.eq_1,kbs.eq_1,kcp.eq_1,kw.eq_1,kr.eq_1,ky.eq_1,kn.eq_1,dr1.eq_1,dry.eq_1,drn.eq_1,dr2.eq_1,dwy.eq_1,dra.eq_1,kq.eq_1,ks.eq_def,kc.eq_def,ki.eq_1,kb.eq_def,ke.eq_def,kl.eq_1,kR.eq_def,kx.eq_1,kz.eq_1,kf.eq_def,SN.eq_1,adP,Zz,Xu,Xr,aby,abz,abI,Zw,adM,Zx,abE,Zy,Zu,Zv,abG,abJ,Xq,ZA,Xs,Xt,adO,adN,abu,abv,exI,exU,exB,adU,exP,exF,exM,alI,alU,alB,adF,alP,alF,alM,cU8,z0,z1,tb,abw,b1,b2,b3,b4,b5,b6,ZB,ZC,adS,adR,adQ,abx,abA,rg1,rg2,rg3,rg4,rg5,rg6,rg7,ui,aaV.eq_def,exQ,alQ,Sh.zero.eq_8,Sh.ty.eq_8,Sh.mk.eq_8];exact Tg.lf _) (by refine Tg.pm.trans ?_;dsimp -zeta+instances only[↓XH,ile,↓ad0,nze,nce,LG,SJ,Sh.ty,Int.cast_ofNat_Int]);trivial)
 (j:X=YR dO TBL GL A n e c a m R:=by kernel_rfl)
 :X->bK dO f g m R:=λh=>by
 subst o
 exact yf Q4 gok mix k (vw Prod.fst d) (vw (λx=>x.2.1) d) (vw (λx=>x.2.2) d) i (oU l) hd (j▸h)
def afu(m:bg)(R:aj)(A:T8)(a:aB){f:FuncId}{b:Go.Func}{X:Prop}{c:Code}{n:Nat}{e:ay}{g:ap}(k:dO.funcs[f]? =some b)
 (d:(b.body,b.ntmps,b.results)=(some c,n,Array.mk e):=by cbv)
 (i:a.all SV.mT=true:=by kernel_rfl)(l:Nat.ble a.length n=true:=by kernel_rfl)(hd:uq c=true:=by kernel_rfl)
 (o:a.map SV.v=g:=by dsimp only[List.map,cI,cS,cP,SV.v,Ce.v])
 (w:Wi (YR dO TBL GL A n e c a m R) X->True:=by intro w;obtain - :=mkT w (by sym -abstractProof=>simp[gel,A0.eq_1,cI.eq_1,cS.eq_1,cP.eq_1,tg0,tg3,tg4,tg5,aee,aef,aeg,aeh,aei,aej,aek,ael,aem,aen,aeo,aep,aeq,aer,aes,aet,aeu,aev,aew,aex,aey,aez,aeA,aeB,aeC,aeD,aeE,aeF,aeG,aeH,aeI,aeJ,abW,abX,abY,abZ,ab0,ab1,ab2,ab3,ab4,ab5,ab6,ab7,ab8,ab9,aca,acb,acd,ace,acf,acg,ach,aci,acj,ack,acm,acn,aco,acp,acq,acr,acs,acu,acv,acw,acx,acy,acz,acA,acB,acC,acD,acE,acF,acG,acH,nbq,nbl,nbt,atl,o1,o2,o3,o5,o6,a2,a3,a4,t1,t2,t3,g1,g2,eM,ji,eT,iA,SH,List.all_nil,dz,kU,List.elem_cons,Bool.true_and,Bool.false_and,abn,abl,Bool.true_or,abm,aar,Bool.and_true,vy,Option.map_none,ni,vY,VB,List.flatMap_nil,List.isEmpty_cons,List.isEmpty_nil,List.any_cons,VA,mC,RT,yM.eq_1,yM.eq_2,vc.eq_1,vc.eq_4,vc.eq_6,vc.eq_7,vc.eq_8,yU.eq_def,orT.eq_def,orB.eq_def,uQ.eq_1,uQ.eq_2,Qr.eq_def,eqK.eq_1,eqK.eq_2,yN.eq_1,HP.eq_1,HP.eq_2,eO.eq_1,tX.eq_1,tX.eq_2,tm.eq_def,rK.eq_1,rK.eq_2,Ul.eq_1,Uk.eq_1,SS.eq_1,SS.eq_2,LJ.eq_1,LJ.eq_2,Wm.eq_def,lkH.eq_1,HU.eq_def,lk.eq_1,lk.eq_2,sP.eq_1,Ih.eq_1,Ih.eq_2,tS.eq_def,Bh.eq_def,nQ.eq_1,sq.eq_1,sq.eq_2,oO.eq_1,yx.eq_1,yx.eq_2,yx.eq_3,wy.eq_1,Ec.eq_1,Ec.eq_2,gd.eq_1,gd.eq_2,PW.eq_1,wh.eq_1,wh.eq_2,P2.eq_def,wr.eq_1,wr.eq_2,wr.eq_4,wr.eq_6,wr.eq_8,wr.eq_9,wr.eq_10,wr.eq_11,BA.eq_1,BA.eq_2,Yu.eq_1,exC.eq_1,Re.eq_def,EK.eq_def,rd.eq_1,rd.eq_2,rd.eq_3,rd.eq_4,rd.eq_5,rd.eq_6,rd.eq_7,rd.eq_8,rd.eq_9,rd.eq_10,rd.eq_11,rd.eq_12,rd.eq_13,rd.eq_15,YX.eq_def,abB,abC,abD,Sb.eq_1,Ly.eq_1,Ly.eq_2,Te.eq_1,Ry.eq_1,Ry.eq_2,zB.eq_1,zB.eq_2,J4.eq_1,J4.eq_2,qO.eq_1,qO.eq_2,qO.eq_3,qO.eq_4,qO.eq_5,SV.cells.eq_def,unO.eq_def,aaU.eq_def,aaE.eq_def,vC.eq_1,vC.eq_2,vC.eq_3,vC.eq_6,vC.eq_7,vC.eq_8,vC.eq_9,vC.eq_10,vC.eq_11,vC.eq_12,abF,abH,ldC.eq_1,Mi.eq_1,Mi.eq_2,Mi.eq_3,oL.eq_def,SV.mT.eq_def,TI.yS.eq_1,TI.agg.eq_1,Sh.zero.eq_1,Sh.zero.eq_2,Sh.zero.eq_3,Sh.zero.eq_4,Sh.zero.eq_5,Sh.zero.eq_6,Sh.zero.eq_7,ev.eq_1,ev.eq_2,ev.eq_3,ev.eq_4,J8.eq_def,tE.eq_1,tE.eq_2,nL.eq_1,nL.eq_3,nL.eq_4,nL.eq_5,nL.eq_6,nL.eq_7,yr.eq_1,yr.eq_2,SV.nb.eq_def,kM.eq_1,kM.eq_2,AV.sv.eq_1,AV.sv.eq_2,SV.v.eq_1,SV.v.eq_2,SV.v.eq_3,SV.v.eq_4,SV.v.eq_5,SV.v.eq_6,SV.v.eq_7,SV.v.eq_8,SV.v.eq_9,AV.v.eq_1,AV.v.eq_2,Ce.v.eq_1,Ce.v.eq_2,Ce.v.eq_3,Ce.v.eq_4,Ce.v.eq_5,Ce.v.eq_6,Ce.v.eq_7,Ce.v.eq_8,Ce.v.eq_9,Ce.v.eq_10,Ce.v.eq_11,Ce.v.eq_12,Ce.v.eq_13,By.eq_1,By.eq_2,ZE.eq_1,J9.eq_def,kJ.eq_1,kJ.eq_2,LG.eq_1,LG.eq_2,SJ.eq_1,SJ.eq_2,Sh.ty.eq_1,Sh.ty.eq_2,Sh.ty.eq_3,Sh.ty.eq_4,Sh.ty.eq_5,Sh.ty.eq_6,Sh.ty.eq_7,Sh.mk.eq_1,Sh.mk.eq_2,Sh.mk.eq_3,Sh.mk.eq_4,Sh.mk.eq_5,Sh.mk.eq_6,Sh.mk.eq_7,Pz.eq_1,SV.ces.eq_def,AV.ces.eq_1,AV.ces.eq_2,KK.eq_1,pmG.eq_1,pmG.eq_2,Zm.eq_1,Zm.eq_2,kld.eq_1,klc.eq_1,kxc.eq_1,kxs.eq_1,krc.eq_1,kal.eq_1,kam.eq_1,pa.eq_1,p3.eq_1,p2.eq_1,XA.eq_1,aaR.eq_1,khi.eq_1,klo.eq_1,kav.eq_1,kxt.eq_1,krt.eq_1,krs.eq_1,aaS.eq_1,kbs.eq_1,kcp.eq_1,kw.eq_1,kr.eq_1,ky.eq_1,kn.eq_1,dr1.eq_1,dry.eq_1,drn.eq_1,dr2.eq_1,dwy.eq_1,dra.eq_1,kq.eq_1,ks.eq_def,kc.eq_def,ki.eq_1,kb.eq_def,ke.eq_def,kl.eq_1,kR.eq_def,kx.eq_1,kz.eq_1,kf.eq_def,SN.eq_1,adP,Zz,Xu,Xr,aby,abz,abI,Zw,adM,Zx,abE,Zy,Zu,Zv,abG,abJ,Xq,ZA,Xs,Xt,adO,adN,abu,abv,exI,exU,exB,adU,exP,exF,exM,alI,alU,alB,adF,alP,alF,alM,cU8,z0,z1,tb,abw,b1,b2,b3,b4,b5,b6,ZB,ZC,adS,adR,adQ,abx,abA,aaV.eq_def,exQ,alQ,Sh.zero.eq_8,Sh.ty.eq_8,Sh.mk.eq_8];simp[eM,ji,ui,QB.eq_1,QB.eq_2,rg1,rg2,rg3,rg4,rg5,rg6,rg7];exact Tg.lf _) (by refine Tg.pm2.trans ?_;dsimp -zeta+instances only[↓XH,ile,↓ad0,nze,nce,LG,SJ,Sh.ty,Int.cast_ofNat_Int]);trivial)
 (j:X=YR dO TBL GL A n e c a m R:=by kernel_rfl)
 :X->bK dO f g m R:=λh=>by
 subst o
 exact yf Q4 gok mix k (vw Prod.fst d) (vw (λx=>x.2.1) d) (vw (λx=>x.2.2) d) i (oU l) hd (j▸h)
end
section
open Tryz
variable{m:bg}{R:aj}
variable{a b p d e f g h r u v w x y z B:E}{i j k l q o s t C D F G H I J K:Int}
def BJ(a:E):=eK m R A0 [a] func7
def Ix(a:E):=eK m R ⟨[(4,[])],[],[(4,[49,47])]⟩ [.agg [a,b],i] func8
def I6(a:E):=eK m R A0 [.agg [a,b],i] func9
def An(i:Int):=eK m R A0 [.agg [i,j,k,a],.agg [l,q,o,b]] func10
def GD(a:E):=eK m R ⟨[(4,[(12,.I)])],[],[(4,[25])]⟩ [.agg [a,b]] func11
def CP(a:E):=eK m R A0 [.agg [a,b],i] func17
def Gz(a:E):=eK m R ⟨[(5,[(9,.I)])],[(4,[(8,.P)])],[(4,[50,48,47]),(5,[50,48,47])]⟩ [.agg [a,b],.agg [i,j,k,l,p,d,e],q] func18
def Iz(a:E):=eK m R ⟨[(6,[(28,.I)])],[],[(6,[43])]⟩ [.agg [a,b],i,j] func20
def Kh(a:E):=eK m R A0 [a,i] func21
def Og(a:E):=eK m R ⟨[(2,[(5,.I)])],[],[]⟩ [a,i] func22
def yz(a:E):=eK m R A0 [a] func23
def CQ(a:E):=eK m R ⟨[(5,[(20,.I)]),(13,[(66,.I)])],[(12,[])],[(5,[82,80]),(12,[85,82,80]),(13,[85,82,80])]⟩ [.agg [a,b]] func24
def GH(a:E):=eK m R ⟨[(3,[(3,.I),(8,.I)])],[],[]⟩ [a] func25
def Da(a:E):=eK m R A0 [.agg [a,b],i] func26
def Af(p:ai):=eK m R ⟨[],[(5,[(4,.T)])],[(5,[91])]⟩ [p] func27
def DB(a:E):=eK m R ⟨[(4,[(3,.I)])],[],[(4,[30])]⟩ [.agg [a,b]] func28
def Jo(i:Int):=eK m R A0 [i,j,k] func29
def Fw(i:Int):=eK m R A0 [.agg [i,j,k,l,a,b,p]] func30
def Jj(a:E):=eK m R A0 [.agg [a,b],i] func31
def Ez(a:E):=eK m R ⟨[(4,[(5,.I)])],[],[]⟩ [a,b] func32
def Kw(a:E):=eK m R ⟨[(5,[(50,.I)]),(10,[(71,.I)]),(19,[(115,.I)])],[(3,[(8,.P)]),(4,[(9,.P)])],[(3,[138,134]),(4,[138,134]),(5,[138,134]),(10,[138,134]),(19,[138,134])]⟩ [.agg [a,b],i] func33
def CR(a:E):=eK m R A0 [.agg [a,b],.agg [i,j,k,l,p,d,e]] func39
def CT(i:Int):=eK m R ⟨[(3,[(20,.I)])],[],[(3,[52,53])]⟩ [.agg [i,j,k,l,a,b,p]] func40
def IJ(a:E):=eK m R A0 [.agg [a,b],i,j] func41
def CS(a:E):=eK m R ⟨[(4,[(14,.I)]),(9,[(56,.I)]),(15,[(76,.I)])],[(8,[])],[(8,[110]),(9,[110]),(15,[110])]⟩ [a] func42
def Km(a:E):=eK m R ⟨[(6,[(6,.S),(28,.I)])],[],[]⟩ [a,i] func43
def Fp(a:E):=eK m R A0 [a] func44
def GW(p:ai):=eK m R A0 [p] func45
def HA(p:ai):=eK m R A0 [p] func46
def Ep(a:E):=eK m R ⟨[(5,[(18,.I)])],[],[(5,[43,42])]⟩ [.agg [a,b]] func47
def tJ(a:E):=eK m R ⟨[(6,[(88,.I)])],[(5,[])],[(5,[147,146,145,144]),(6,[147,146,145,144])]⟩ [.agg [a,b],.agg [p,d,i,j,e],k,.agg [l,q,o,s,f,g]] func48
def GK(a:E):=eK m R A0 [.agg [a,b],i,j] func49
def Br(p q:ai):=eK m R ⟨[(4,[(28,.I)]),(14,[(65,.I)])],[(13,[])],[(4,[212,211]),(13,[212,211]),(14,[212,211])]⟩ [p,q,.agg [i,j,k,l,a,b]] func50
def CZ(p q:ai):=eK m R ⟨[(3,[(24,.I)])],[],[(3,[353])]⟩ [p,q,.agg [i,j,k,l,a,b]] func51
def FR(a:E):=eK m R ⟨[(4,[(3,.I)])],[],[(4,[65])]⟩ [.agg [a,b]] func52
def Cd(a:E):=eK m R ⟨[(3,[(4,.I)])],[],[(3,[37,36])]⟩ [.agg [a,b]] func53
def FQ(a:E):=eK m R ⟨[(5,[(6,.I)])],[],[(5,[62,61])]⟩ [.agg [a,b],.agg [p,d,i,j,e]] func54
def rJ(a:E):=eK m R A0 [a] func55
def DA(a:E):=eK m R A0 [.agg [a,b],i] func56
def BY(p:ai):=eK m R ⟨[(2,[(5,.I)])],[],[]⟩ [p,i] func57
def xz(m:bg)(R:aj):Prop:=
 let a:bg:=m.push (.cells (db [.i (0:Int),.i (0:Int),.t false,.i (0:Int),.i (0:Int),.i (0:Int)]) 86)
 OZ m.size m.size (
 let b:bg:=aV a m.size 0 [.i (-1:Int),.i (0:Int),.t false,.i (-1:Int),.i (-1:Int),.i (-1:Int)]
 OZ m.size m.size (
 R (.agg #[vi (-1:Int),vi (0:Int),vb false,vi (-1:Int),vi (-1:Int),vi (-1:Int)]) b))
def Dc(m:bg)(R:aj)(a:xz m R):bK dO 58 [] m R:=
 yf (o:=⟨[],[],[]⟩) (d:=2) (r:=[.cell 0 86]) (a:=[]) Q4 gok mix Tryz.func58 (m:=Pz Tryz.f58) (by kernel_rfl) (by kernel_rfl) (by kernel_rfl) (by kernel_rfl) bO (by kernel_rfl) (Eq.mp (by kernel_rfl) a)
def vj(a:E):=eK m R A0 [a,i] func59
def uh(p:ai):=eK m R ⟨[(7,[(41,.I)])],[(2,[(5,.Q),(6,.P)])],[]⟩ [p,i] func60
def xJ(a:E):=eK m R A0 [a] func62
def AK(p:ai):=eK m R A0 [p] func66
def Db(a:E):=eK m R ⟨[(10,[(95,.I)]),(20,[(158,.I)])],[(3,[]),(16,[]),(24,[])],[(3,[191,190]),(10,[191,190]),(16,[197,191,190]),(20,[191,190]),(24,[191,190])]⟩ [.agg [a,b],.agg [i,j,k,l,p,d,e]] func68
def Em(a:E):=eK m R ⟨[(3,[(10,.I)])],[],[]⟩ [a] func69
def pY(a:E):=eK m R A0 [a] func70
def Kq(a:E):=eK m R A0 [a,i] func71
def GF(a:E):=eK m R ⟨[(2,[(9,.I)])],[],[]⟩ [a,b] func72
def Fe(p:ai):=eK m R A0 [p] func73
def Ca(p:ai):=eK m R A0 [p,i] func74
def EQ(p:ai):=eK m R ⟨[(3,[(6,.I)])],[],[(3,[57,56,55])]⟩ [p,.agg [a,b]] func75
def Dy(p:ai):=eK m R A0 [p,.agg [a,b],i] func76
def Dw(p:ai):=eK m R A0 [p,a] func77
def Es(a:E):=eK m R ⟨[(4,[(39,.I)]),(9,[(64,.I)])],[],[(9,[108])]⟩ [a,b] func78
def Aj(i:Int):=eK m R A0 [i] func79
def sJ(p q:ai):=eK m R A0 [i,p,q] func80
def tn(s:E)(f:Fn×Array Value×Array Value):=eK m R A0 [s,.c (.fv f)] func81
def sK(p:ai):=eK m R A0 [i,p] func82
def uz(b c:E)(d e f g:Int)(h i:E)(a:Fn×Array Value×Array Value):=eK m R A0 [.agg [b,c],.agg [d,e,f,g,h,i],.c (.fv a)] func83
def vI(a:E):=eK m R A0 [.agg [a,b],.agg [i,j,k,l,p,d]] func84
def wE(p:ai):=eK m R ⟨[(15,[(4,.S),(5,.S),(31,.I)])],[],[(15,[62])]⟩ [p,.agg [i,j,k,l,a,b]] func85
def ys(p:ai):=eK m R A0 [p,i] func86
def zq(p:ai):=eK m R A0 [i,p] func87
def IC(a:E):=eK m R A0 [a] func88
def wG(p q:ai):=eK m R A0 [p,q,.agg [i,j,k,l,a,b]] func89
def uY(p q:ai):=eK m R ⟨[(14,[(10,.S),(74,.I)])],[],[(14,[125,121])]⟩ [p,q,.agg [i,j,k,l,a,b]] func90
def xu(p q:ai):=eK m R A0 [p,q,.agg [i,j,k,l,a,b]] func91
def Ej(p:ai):=eK m R A0 [p,i,j,k] func92
def vH(p q:ai):=eK m R A0 [p,q,.agg [i,j,k,l,a,b]] func93
def zo(p:ai):=eK m R A0 [p,i,a] func94
def Bm(p:ai):=eK m R ⟨[(3,[(13,.I)])],[],[]⟩ [p,a] func95
def En(p:ai):=eK m R ⟨[(1,[(4,.S)])],[],[]⟩ [p,i] func96
def Ae(p q:ai):=eK m R ⟨[(5,[(39,.I)])],[],[(5,[58])]⟩ [p,q,.agg [i,j,k,l,a,b]] func97
def Ai(i:Int):=eK m R A0 [i] func98
def xL(a:E):=eK m R ⟨[(2,[(8,.I)])],[],[]⟩ [a,i] func99
def Ad(c:ai):=eK m R ⟨[(9,[(63,.I)])],[(7,[(9,.I)])],[(7,[111]),(9,[114,111])]⟩ [c,i,a,.agg [j,k,l,q,b,p]] func100
def zp(a:ai)(w:Int)(fR:Bool):=eK m R ⟨[(13,[(69,.I)])],[(5,[])],[]⟩ [a,w,.c (.t fR)] func101
def wF(p:ai):=eK m R A0 [p,i] func102
def DF(a:E):=eK m R ⟨[(4,[(3,.I)])],[],[]⟩ [a] func103
def GQ(a:E):=eK m R ⟨[(2,[(5,.I)])],[],[]⟩ [a,b] func104
def FO(a:E):=eK m R ⟨[(2,[(5,.I)])],[],[]⟩ [a,b] func105
def DC(a:E):=eK m R ⟨[(4,[(9,.I)])],[(10,[])],[(4,[241,238,237]),(10,[241,238,237])]⟩ [.agg [a,b],.agg [p,d,i,j,e],k] func106
def Jm(a:E):=eK m R A0 [.agg [a,b],i,j,p,d] func107
def Bq(p:ai):=eK m R A0 [p] func108
def va(p q:ai):=eK m R ⟨[(6,[(49,.I)])],[(10,[])],[(6,[80]),(10,[80])]⟩ [p,q,.agg [i,j,k,l,a,b]] func109
def yv(p q:ai):=eK m R A0 [p,q,.agg [i,j,k,l,a,b]] func110
def Bn(i:Int):=eK m R A0 [.agg [i,j,k,l,a,b],q] func111
def yu(p q:ai):=eK m R A0 [p,q,i] func112
def Lb(i:Int):=eK m R A0 [i] func115
def Hs(i:Int):=eK m R ⟨[(3,[(6,.I)])],[],[(3,[42])]⟩ [.agg [i,j,k,a,b,p],d] func116
def JF(a:E):=eK m R ⟨[(4,[(5,.S),(6,.I)])],[(3,[(30,.T)])],[(3,[70,69]),(4,[70,69])]⟩ [.agg [a,b],.agg [i,j,k,l,p,d]] func117
def yE(c:ai):=eK m R ⟨[],[(3,[])],[(3,[226,225])]⟩ [c,.agg [i,j,k,a,b,p],.agg [l,q,o,s,d,e],f] func118
def xR(c:ai):=eK m R A0 [c,.agg [i,j,k,a,b,p],.agg [l,q,o,s,d,e]] func119
def LZ(i:Int):=eK m R A0 [i] func122
def Bo(a:E):=eK m R ⟨[(3,[(26,.I)]),(8,[(37,.I)]),(21,[(12,.S),(73,.I)]),(28,[(12,.S),(13,.I)]),(33,[(12,.S),(127,.I)])],[(17,[])],[(8,[165]),(33,[175])]⟩ [a] func123
def Ak(i:Int):=eK m R A0 [i] func124
def CU(a:E):=eK m R ⟨[(7,[(63,.I)])],[],[(7,[97,95,94])]⟩ [.agg [a,b],.agg [i,j,k,p,d,e]] func125
def Bl(i:Int):=eK m R ⟨[(2,[(17,.I)])],[(9,[])],[(2,[82]),(9,[82])]⟩ [.agg [i,j,k,a,b,p],d,e,f] func126
def qP(a:E):=eK m R A0 [a] func127
def Jl(a:E):=eK m R ⟨[(3,[(4,.I)])],[],[(3,[75,74])]⟩ [.agg [a,b]] func128
def Ax(p:ai):=eK m R ⟨[],[(4,[]),(6,[]),(9,[]),(11,[])],[(4,[37]),(6,[37]),(9,[37]),(11,[37])]⟩ [p] func129
def FI(a:E):=eK m R ⟨[(3,[(4,.I)])],[],[(3,[45,44])]⟩ [.agg [a,b]] func130
def EX(a:E):=eK m R ⟨[(3,[(4,.I)]),(8,[(6,.S),(7,.I)])],[],[(3,[62,61]),(8,[65,62,61])]⟩ [.agg [a,b]] func131
def EP(p:ai):=eK m R A0 [p,.agg [i,j,k,l,a,b]] func132
def wR(p:ai):=eK m R A0 [p,a] func133
def GU(p:ai):=eK m R A0 [p] func134
def Dz(p:ai):=eK m R A0 [p,.agg [i,j,k,l,a,b]] func135
def uC(s:E)(f:Fn×Array Value×Array Value):=eK m R ⟨[(2,[(8,.I)])],[],[]⟩ [s,.c (.fv f)] func136
def GJ(a:E):=eK m R A0 [a,i] func137
def Kr(a:E):=eK m R A0 [a,i] func138
def Ek(i:Int):=eK m R A0 [i] func139
def rW(e:ai)(i:Int)(n:Int)(c:E)(m:bg)(R:aj):Prop:=
 let k:bg:=m.push (.cells (db [.i i,.i n,.s c]) 57)
 OZ m.size m.size (
 ((i==(1:Int))=true->
 R (vb true) k)/\
 ((i==(1:Int))=false->
 let v:bg:=k.push (.map #[] 0)
 OZ m.size m.size (
 ∃(o:Int->bg->Prop)(μ0:Int->bg->Nat),
 o (0:Int) v/\
 (∀(b:Int)(f:bg),o b f->
 ((decide (b<(c.len:Int)))=true->
 (0:Int)<=b/\b<(c.len:Int)/\
 ∃t:Int,aS f c.bz (c.off+Int.toNat b*1)=some (vi t)/\
 ∃u:E,aS f e.1 (e.2+3+5)=some (E.v u)/\
 bK dO 138 [E.v u,vi t] f λw g=>
 gS [m.size] f g/\
 ∃d:Int,∃q:Bool,w=.tuple #[vi d,vb q]/\
 (q=true->
 ∃l,H9 g k.size l/\
 ∃s,H9 g k.size s/\
 ∀a:bg,H9 a k.size (Oh s d (eJ ((zA l d)+(1:Int))))->a.size=g.size->(∀j,j≠k.size->a[j]? =g[j]?)->
 gS [m.size] g a/\
 ∃h:E,aS a e.1 (e.2+3+5)=some (E.v h)/\
 (0:Int)<=d/\d<(h.len:Int)/\
 ∃r:Int,aS a h.bz (h.off+Int.toNat d*3)=some (vi r)/\
 ∃p,H9 a k.size p/\
 aS a h.bz (h.off+Int.toNat d*3)=aS a h.bz (h.off+Int.toNat d*3)/\
 aS a e.1 (e.2+3+5)=aS a e.1 (e.2+3+5)/\
 ((decide ((eJ (r+(zA p d)))>(999999:Int)))=true->
 R (vb false) a)/\
 ((decide ((eJ (r+(zA p d)))>(999999:Int)))=false->
 eqS (SV.box m.size 57 [.i i,.i n,.s c]) (SV.box m.size 57 [.i i,.i n,.s c]) (
 o (eJ (b+(1:Int))) a/\μ0 (eJ (b+(1:Int))) a<μ0 b f)))/\
 (q=false->
 eqS (SV.box m.size 57 [.i i,.i n,.s c]) (SV.box m.size 57 [.i i,.i n,.s c]) (
 o (eJ (b+(1:Int))) g/\μ0 (eJ (b+(1:Int))) g<μ0 b f)))/\
 ((decide (b<(c.len:Int)))=false->
 R (vb true) f)))))
def wH(a:ai)(b:Int)(d:Int)(e:E)(m:bg)(R:aj)(f:rW a b d e m R):bK dO 140 [vp a.1 a.2,.agg #[vi b,vi d,E.v e]] m R:=
 yf (o:=⟨[(5,[(17,.I)])],[],[(5,[54])]⟩) (d:=51) (r:=[.tmp 4]) (a:=[.c (.p a.1 a.2),.agg [.i b,.i d,.s e]]) Q4 gok mix Tryz.func140 (m:=Pz Tryz.f140) (by kernel_rfl) (by kernel_rfl) (by kernel_rfl) (by kernel_rfl) bO (by kernel_rfl) (Eq.mp (by kernel_rfl) f)
def xK(a:E):=eK m R ⟨[(4,[(13,.I)])],[],[]⟩ [a,b] func141
def C0(a:E):=eK m R ⟨[(3,[(3,.S),(8,.I)])],[],[]⟩ [a] func142
def NY(i:Int):=eK m R A0 [i,j,k] func143
def CW(p:ai):=eK m R A0 [p,i,a] func144
def Eo(p:ai):=eK m R ⟨[(1,[(2,.I)])],[],[]⟩ [p] func145
def FK(a:E):=eK m R ⟨[(6,[(6,.I)]),(12,[(7,.I)])],[],[(6,[105]),(12,[105])]⟩ [a,i] func146
def OP(i:Int):=eK m R A0 [i] func147
def Jf(a:E):=eK m R ⟨[(2,[(5,.I)])],[],[]⟩ [a,i] func148
def vk(a:E):=eK m R A0 [a,i] func149
def Ht(a:E):=eK m R A0 [.agg [a,b],i,j,k] func150
def yX(a:E):=eK m R ⟨[(5,[(5,.S),(6,.I)])],[],[]⟩ [a,i] func151
def DE(a:E):=eK m R ⟨[(4,[(9,.I)])],[],[]⟩ [a,i,j,k] func152
def Nd(i:Int):=eK m R A0 [i] func153
def od(a:E):=eK m R A0 [a] func154
def Bp(p:ai):=eK m R ⟨[(1,[(1,.I)])],[],[]⟩ [p,i] func155
def CY(p:ai):=eK m R A0 [p,i] func156
def zt(p q:ai):=eK m R ⟨[(7,[(10,.S),(62,.I)]),(17,[(110,.I)])],[(5,[])],[(5,[156,153]),(7,[156,153]),(17,[156,153])]⟩ [p,q,.agg [i,j,k,l,a,b]] func157
def Er(p:ai):=eK m R ⟨[(6,[(47,.I)])],[],[]⟩ [p,i,j,k] func158
def zr(p q:ai):=eK m R A0 [p,q,.agg [i,j,k,l,a,b]] func159
def Am(p q:ai):=eK m R ⟨[(3,[(24,.I)]),(21,[(12,.S),(101,.I)]),(30,[(147,.I)])],[(17,[(10,.I),(11,.T)]),(29,[(12,.S)])],[(3,[166]),(17,[166]),(21,[166]),(29,[166]),(30,[166])]⟩ [p,q,.agg [i,j,k,l,a,b]] func160
def CX(p q:ai):=eK m R ⟨[(4,[(23,.I)])],[(11,[]),(13,[]),(15,[])],[(11,[121]),(13,[121]),(15,[121])]⟩ [p,q] func161
def Fi(i:Int):=eK m R A0 [i] func162
def wo(i:Int):=eK m R A0 [i] func163
def Jt(a:E):=eK m R A0 [.agg [a,b],.agg [i,j,k,l,p,d],q] func164
def AM(a:E):=eK m R ⟨[(2,[(3,.I)])],[],[]⟩ [a] func165
def Dj(i:Int):=eK m R ⟨[(2,[(5,.I)])],[],[(2,[26,25])]⟩ [.agg [i,j,k,a,b,p],.agg [l,q,o,s,d,e]] func166
def wP(c:ai):=eK m R A0 [c,.agg [i,j,k,a,b,p],.agg [l,q,o,s,d,e]] func167
def wN(c:ai):=eK m R ⟨[(2,[(7,.I)])],[],[(2,[51,50])]⟩ [c,.agg [i,j,k,a,b,p],.agg [l,q,o,s,d,e]] func168
def Ja(a:E):=eK m R ⟨[(2,[(3,.I)])],[],[]⟩ [a] func169
def wO(p:ai):=eK m R A0 [p,i] func170
def Lc(a:E):=eK m R A0 [a,i] func171
def yD(p:ai):=eK m R A0 [p,i] func172
def xQ(c:ai):=eK m R A0 [c,.agg [i,j,k,a,b,p],.agg [l,q,o,s,d,e]] func173
def Oy(a:E):=eK m R ⟨[(2,[(5,.I)])],[],[]⟩ [a,i] func174
def yG(p:ai):=eK m R A0 [p,i,j] func175
def OM(i:Int):=eK m R A0 [i,j,k] func176
def vS(c:ai):=eK m R ⟨[],[(5,[(8,.I)])],[(5,[75,74])]⟩ [c,.agg [i,j,k,a,b,p],.agg [l,q,o,s,d,e],t] func177
def G8(a:E):=eK m R ⟨[(3,[(3,.I),(4,.I)])],[],[]⟩ [a] func178
def zI(c:ai):=eK m R ⟨[],[(10,[(6,.I),(7,.S)])],[(10,[128,127])]⟩ [c,.agg [i,j,k,a,b,p],.agg [l,q,o,s,d,e]] func179
def zJ(c:ai):=eK m R A0 [c,.agg [i,j,k,a,b,p],l] func180
def zK(p:ai):=eK m R ⟨[(1,[(4,.I)])],[],[]⟩ [p,a] func181
def ta(p:ai):=eK m R A0 [p,i] func182
def Fa(a:E):=eK m R ⟨[(2,[(5,.S)])],[],[]⟩ [a,b] func183
def wQ(c:ai):=eK m R ⟨[(4,[(8,.I)])],[],[(4,[111,110])]⟩ [c,.agg [i,j,k,a,b,p],.agg [l,q,o,s,d,e]] func184
def yF(p:ai):=eK m R A0 [p,i,j] func185
def He(a:E):=eK m R ⟨[(3,[(5,.I),(6,.I)])],[],[]⟩ [a,i] func186
def El(a:E):=eK m R ⟨[(6,[(48,.I)])],[(5,[])],[(5,[69]),(6,[69])]⟩ [a,.agg [i,j,b]] func187
def EW(a:E):=eK m R ⟨[(3,[(3,.S),(4,.I)]),(7,[(5,.S),(6,.I)])],[],[]⟩ [a] func188
def BZ(i:Int):=eK m R ⟨[(3,[(5,.S),(6,.I)])],[],[]⟩ [i,j] func189
def zE(c:ai):=eK m R ⟨[(2,[(3,.S),(4,.S),(10,.I)])],[(17,[])],[(2,[104,103]),(17,[108,104,103])]⟩ [c,.agg [a,b],.agg [p,i],d,e] func190
def BP(p:ai):=eK m R A0 [p,.agg [i,j,k,l,a,b]] func191
def Li(a:E):=eK m R ⟨[(3,[(5,.I),(6,.I)]),(7,[(5,.I),(7,.I)])],[],[]⟩ [a,i] func192
def BN(p:ai):=eK m R A0 [p] func193
def Ow(p:ai):=eK m R ⟨[(9,[(10,.S),(11,.I)])],[],[(9,[108,106,105])]⟩ [p,.agg [a,b]] func194
def ET(a:E):=eK m R ⟨[(3,[(4,.I)])],[],[(3,[38,37])]⟩ [.agg [a,b]] func195
def Cf(a:E):=eK m R ⟨[(3,[(4,.I)])],[],[(3,[40,39])]⟩ [.agg [a,b]] func196
def Lk(a:E):=eK m R ⟨[(3,[(4,.I)])],[],[(3,[40,39])]⟩ [.agg [a,b]] func197
def HF(a:E):=eK m R ⟨[(3,[(3,.S),(4,.I)])],[],[]⟩ [a] func198
def vn(i:Int):=eK m R A0 [.agg [i,j,k,l,a,b]] func199
def Fc(p:ai):=eK m R A0 [p] func200
def QI(a:E):=eK m R A0 [a] func201
def LX(a:E):=eK m R ⟨[(2,[(1,.I),(10,.I)])],[],[(2,[43])]⟩ [a,i] func202
def pD(s:E)(f:Fn×Array Value×Array Value):=eK m R ⟨[(2,[(8,.I)])],[],[]⟩ [s,.c (.fv f)] func203
def Ac(i:Int):=eK m R A0 [.agg [i,j,a]] func204
def Ji(i:Int):=eK m R A0 [i] func205
def tK(a:E):=eK m R A0 [.agg [a,b],i,j,p] func206
def xA(p c:ai):=eK m R ⟨[],[(2,[(16,.T)]),(7,[])],[(2,[72]),(7,[72])]⟩ [p,c,.agg [i,j,k,l,a,b],q] func207
def vT(p:ai):=eK m R ⟨[(2,[(5,.I)]),(6,[(6,.I),(7,.I)])],[],[]⟩ [p,a] func208
def Dv(a:E):=eK m R ⟨[(3,[(3,.S),(4,.I)])],[],[]⟩ [a] func209
def Hw(a:E):=eK m R ⟨[(4,[(5,.I)])],[],[]⟩ [a,b] func210
def JN(i:Int):=eK m R ⟨[(3,[(5,.S),(6,.I)])],[],[(3,[28])]⟩ [.agg [i,j,k,a,b,p],d] func211
def MB(i:Int):=eK m R A0 [i] func212
def Fb(a:E):=eK m R ⟨[(2,[(3,.I)])],[],[]⟩ [a] func213
def MV(a:E):=eK m R A0 [a,i,j,b] func214
def y8(a:E):=eK m R A0 [a,b] func215
def yH(p:ai):=eK m R A0 [p,i] func216
def OU(a:E):=eK m R ⟨[(2,[(3,.I)])],[],[]⟩ [a] func217
def vt(c:ai):=eK m R ⟨[(3,[(7,.S),(8,.I)])],[],[(3,[42])]⟩ [c,.agg [i,j,k,l,a,b],p] func218
def Ev(a:E):=eK m R A0 [a,i] func219
def yB(c:ai):=eK m R ⟨[(17,[(16,.S),(17,.S),(18,.I)]),(22,[(20,.I)]),(33,[(23,.I)])],[],[(17,[215,214]),(22,[215,214]),(33,[215,214])]⟩ [c,.agg [a,b],.agg [i,j,k,p,d],e,f] func220
def Hh(a:E):=eK m R ⟨[(3,[(5,.S),(6,.I)])],[],[]⟩ [a,i] func221
def Fy(p:ai):=eK m R A0 [p] func222
def Jh(a:E):=eK m R ⟨[(3,[(4,.I)])],[],[(3,[38,37])]⟩ [.agg [a,b]] func223
def OC(a:E):=eK m R ⟨[(3,[(4,.I)])],[],[(3,[41,40])]⟩ [.agg [a,b]] func224
def BR(a:E):=eK m R ⟨[(5,[(9,.I)])],[],[(5,[67])]⟩ [.agg [a,b],i,j] func225
def AG(p:ai):=eK m R ⟨[(1,[(1,.I)])],[],[]⟩ [p,i] func226
def Jz(a:E):=eK m R A0 [.agg [a,i],j,.agg [k,l,q,b,p]] func227
def Hc(i:Int):=eK m R A0 [i,j] func228
def Ck(a:E):=eK m R A0 [.agg [a,b],i,.agg [p,j]] func229
def HH(a:E):=eK m R A0 [.agg [a,b,i,p,j],.agg [d,k]] func230
def BL(a:E):=eK m R ⟨[(4,[(3,.S),(4,.S),(5,.I)]),(13,[(7,.S),(8,.I)])],[],[(4,[74,73]),(13,[78,74,73])]⟩ [.agg [a,i]] func231
def AO(a:E):=eK m R ⟨[(3,[(2,.I),(8,.I)]),(9,[(10,.S),(12,.I)])],[],[(3,[113,111,110]),(9,[116,113,111,110])]⟩ [.agg [a,b],.agg [p,i],j] func232
def Dx(a:E):=eK m R ⟨[(3,[(8,.I)]),(8,[(10,.S),(11,.I)])],[],[(3,[67,65,64]),(8,[70,67,65,64])]⟩ [.agg [a,b],.agg [p,i],d] func233
def FD(a:E):=eK m R ⟨[(1,[(1,.I),(2,.I)])],[],[]⟩ [a,i,j] func234
def ID(a:E):=eK m R A0 [a,i] func235
def IE(a:E):=eK m R ⟨[(2,[(11,.I)])],[],[]⟩ [a,i,j] func236
def mU(s:E)(f:Fn×Array Value×Array Value):=eK m R A0 [s,.c (.fv f)] func237
end
end Go.Proofs.YtbbbdejieenniaaGreat
