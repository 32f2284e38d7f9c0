/- Part of a proof, joined by a program. -/
import Derived.KernelRfl
import Derived.Laws.Append
import Derived.Laws.Cells
import Derived.Laws.Entries
import Derived.Laws.IdiomCopy
import Derived.Orders
import Derived.OrdersHeld
import Derived.Still
import Derived.Tactics
set_option linter.unusedVariables false
set_option linter.unusedSimpArgs false
set_option linter.defProp false
set_option maxHeartbeats 8000000
set_option maxRecDepth 100000
namespace Go.Vc
def aFP:=@decide_eq_true_eq
def aFQ:=@decide_eq_false_iff_not
def aFR:=@Nat.le_refl
def aFS:=@if_neg
def aFT:=@List.mem_cons_of_mem
def aFU:=@beq_eq_false_iff_ne
def aFV:=@List.getElem?_append_left
def aFW:=@if_pos
def aFX:=@List.getElem?_append_right
def aFY:=@Nat.lt_of_lt_of_le
def aFZ:=@beq_iff_eq
def aF0:=@List.mem_cons
def aF1:=@Nat.lt_or_ge
def aF2:=@Nat.eq_of_beq_eq_true
def aF3:=@List.mem_cons_self
def aF4:=@List.length_append
def aF5:=@List.length_cons
def aF6:=@Bool.and_eq_true
def aF7:=@List.mem_append_left
def aF8:=@Nat.le_trans
def aF9:=@Bool.or_eq_false_iff
def aGa:=@Nat.zero_add
def aGb:=@List.getElem?_map
def aGc:=@List.getElem?_eq_none
def aGd:=@List.mem_or_eq_of_mem_set
def aGe:=@Bool.or_eq_true
def aGf:=@List.map_cons
def aGg:=@List.cons_append
def aGh:=@Nat.mul_le_mul_right
def aGi:=@List.take_append_drop
def aGj:=@List.getElem?_take_of_lt
def aGk:=@List.mem_of_mem_take
def aGl:=@List.getElem?_set_self
def aGm:=@Nat.add_assoc
def aGn:=@List.getElem?_set_ne
def aGo:=@Classical.byContradiction
def aGp:=@List.nil_append
def aGq:=@Nat.zero_le
def aGr:=@Nat.mul_one
def aGs:=@List.append_assoc
def aGt:=@Classical.choose_spec
def aGu:=@List.mem_append_right
def aGv:=@List.length_nil
def aGw:=@Int.le_refl
def aGx:=@List.map_nil
def aGy:=@List.length_map
def aGz:=@List.map_append
def aGA:=@List.getElem?_cons_succ
def aGB:=@Nat.not_lt_zero
def aGC:=@List.ext_getElem?
def aGD:=@List.dropLast_concat_getLast
def aGE:=@Nat.add_mul
def aGF:=@bne_eq_false_iff_eq
def aGG:=@List.take_length
def aGH:=@List.length_take
def aGI:=@Array.getElem?_setIfInBounds_ne
def aGJ:=@List.getD_eq_getElem?_getD
def aGK:=@List.set_cons_zero
def aGL:=@List.set_cons_succ
def aGM:=@Classical.em
def aGN:=@Option.map_eq_some_iff
def aGO:=@List.length_set
def aGP:=@List.append_nil
def aGQ:=@Bool.not_eq_true'
def aGR:=@List.getElem?_set
def aGS:=@List.flatten_cons
def aGT:=@Nat.eq_zero_or_pos
def aGU:=@Bool.false_eq_true
def aGV:=@Nat.min_eq_left
def aGW:=@List.mem_of_getElem?
def aGX:=@Nat.add_zero
def aGY:=@List.not_mem_nil
def aGZ:=@Nat.le_of_ble_eq_true
def aG0:=@List.getElem?_toArray
def aG1:=@List.mem_singleton
def aG2:=@List.take_append_of_le_length
def aG3:=@List.getLast?_eq_some_getLast
def aG4:=@cond_true
def aG5:=@List.flatMap_cons
def aG6:=@List.take_of_length_le
def aG7:=@Int.tdiv_eq_ediv_of_nonneg
def aG8:=@List.map_toArray
def aG9:=@Nat.lt_of_le_of_lt
def aHa:=@List.sizeOf_lt_of_mem
def aHb:=@List.getElem?_take
def aHc:=@List.drop_eq_getElem_cons
def aHd:=@cond_false
def aHe:=@Option.map_some
def aHf:=@Nat.le_succ_of_le
def aHg:=@List.replicate_succ
def aHh:=@Ne.symm
def aHi:=@List.getElem?_cons_zero
def aHj:=@List.length_take_le
def aHk:=@List.getElem?_drop
def aHl:=@Array.getD_eq_getD_getElem?
def aHm:=@Nat.succ_mul
def aHn:=@gt_iff_lt
def aHo:=@Int.toNat_natCast
def aHp:=@Option.getD_some
def aHq:=@Array.getElem?_push
def aHr:=@List.flatten_append
def aHs:=@List.set_eq_of_length_le
def aHt:=@Array.ext_getElem?
def aHu:=@List.set_eq_take_append_cons_drop
def aHv:=@Option.some.inj
def aHw:=@Nat.add_sub_cancel_left
def aHx:=@List.findIdx_lt_length_of_exists
def aHy:=@List.drop_of_length_le
def aHz:=@List.size_toArray
def aHA:=@if_false
def aHB:=@congrArg
def aHC:=@Array.getElem?_modify
def aHD:=@Nat.le_of_eq
def aHE:=@List.map_set
def aHF:=@Nat.le_of_not_lt
def aHG:=@bne_iff_ne
def aHH:=@Nat.testBit_two_pow
def aHI:=@Bool.eq_iff_iff
def aHJ:=@List.take_succ_cons
def aHK:=@ge_iff_le
def aHL:=@List.getElem?_range
def aHM:=@List.length_reverse
def aHN:=@Nat.eq_of_mul_eq_mul_right
def aHO:=@not_or
def aHP:=@or_false
def aHQ:=@Int.lt_or_le
def aHR:=@Array.mapM_eq_mapM_toList
def aHS:=@Bool.not_false
def aHT:=@List.take_take
def aHU:=@Option.some.injEq
def aHV:=@Array.getElem?_replicate
def aHW:=@List.eq_of_mem_replicate
def aHX:=@Prod.mk.injEq
def aHY:=@List.map_take
def aHZ:=@List.all_cons
def aH0:=@Array.getElem?_eq_none
def aH1:=@Nat.ble_eq_true_of_le
def aH2:=@Array.getElem?_toList
def aH3:=@Nat.zero_mul
def aH4:=@Array.getElem?_mapIdx
def aH5:=@List.any_nil
def aH6:=@List.range_succ
def aH7:=@Nat.le_of_lt
def aH8:=@List.set_append_right
def aH9:=@List.mem_of_mem_drop
def aIa:=@List.set_append_left
def aIb:=@List.mapM_cons
def aIc:=@Nat.testBit_or
def aId:=@Nat.mul_le_mul
def aIe:=@Array.toList_zipIdx
def aIf:=@Array.length_toList
def aIg:=@Array.foldl_toList
def aIh:=@Bool.not_eq_false'
def aIi:=@Bool.true_and
def aIj:=@Bool.or_false
def aIk:=@Bool.not_true
def aIl:=@Bool.false_or
def aIp:=@Nat.sub_zero
def aIq:=@List.mem_map
def aIr:=@List.map_map
def aIF:=@dif_pos
def aII:=@Int.add_mul
def aIR:=@if_true
def aIT:=@Iff.rfl
theorem ab{p:Prop}(h:p:=by omega):p:=h
theorem az{p:Prop}(h:p:=by simp):p:=h
theorem aO{p:Prop}(h:p:=by decide):p:=h
theorem bg{p:Prop}(h:p:=by simp;omega):p:=h
end Go.Vc
section
namespace Go.Vc
abbrev ah:=Array Obj
def ad(m:ah)(b o:Nat):Option Value:=
 match m[b]? with
 |some (.cells c _ _)=>c[o]?
 |_=>none
def Rg(m:ah)(b o:Nat):Bool:=
 match m[b]? with
 |some (.cells _ _ (lo,hi))=>lo<=o&&o<hi
 |_=>false
def xz(m:ah)(b o:Nat)(v:Value):ah:=
 m.modify b λ
  | .cells c e f=>.cells (c.setIfInBounds o v) e f
  |x=>x
theorem xA(w:World)(b o:Nat):w.cell? ⟨b,o,none⟩=ad w.heap b o:=by
 simp only[World.cell?,ad];cases h:w.heap[b]? with
 |none=>rfl
 |some x=>cases x<;>simp
theorem Rh(w:World)(b o:Nat):w.frozen? ⟨b,o,none⟩=Rg w.heap b o:=by
 simp only[World.frozen?,Rg];cases h:w.heap[b]? with
 |none=>rfl
 |some x=>cases x<;>simp
theorem NR(w:World)(b o:Nat)(v:Value):(w.setCell ⟨b,o,none⟩ v).heap=xz w.heap b o v:=by
 simp only[World.setCell,xz];congr 1
structure mN(w w':World):Prop where
 os:w'.os=w.os
 tape:w'.tape=w.tape
 output:w'.output=w.output
theorem mN.av(w:World):mN w w:=⟨rfl,rfl,rfl⟩
theorem mN.trans{a b c:World}(h:mN a b)(k:mN b c):mN a c:=⟨k.os.trans h.os,k.tape.trans h.tape,k.output.trans h.output⟩
def aD(P:Program)(f:FuncId)(args:List Value)(m:ah)(K:Value->ah->Prop):Prop:=
 ∀w:World,w.heap=m->Calls P f args.toArray w λe w'=>∃v,e=.returned v/\mN w w'/\K v w'.heap
theorem aD.mono{P:Program}{f:FuncId}{args:List Value}{m:ah}{K K':Value->ah->Prop}(h:aD P f args m K)
 (hk:∀v m',K v m'->K' v m'):aD P f args m K':=
 λw hw=>(h w hw).mono λ_ _⟨v,he,hs,hK⟩=>⟨v,he,hs,hk _ _ hK⟩
inductive Sl where
 |nil
 |mk (b o len cap:Nat)
 |BV (b o sp:Nat)
def Sl.v:Sl->Value
 | .nil=>.slice none 0 0
 | .mk b o l c=>.slice (some ⟨b,o,none⟩) l c
 | .BV b o sp=>.slice (some ⟨b,o,some sp⟩) 0 0
def Sl.len:Sl->Nat
 | .nil=>0
 | .mk _ _ l _=>l
 | .BV _ _ _=>0
def Sl.cap:Sl->Nat
 | .nil=>0
 | .mk _ _ _ c=>c
 | .BV _ _ _=>0
def Sl.ao:Sl->Nat
 | .nil=>0
 | .mk b _ _ _=>b
 | .BV b _ _=>b
def Sl.off:Sl->Nat
 | .nil=>0
 | .mk _ o _ _=>o
 | .BV _ o _=>o
@[simp] theorem Sl.SY (b o sp:Nat):(Sl.BV b o sp).len=0:=rfl
@[simp] theorem Sl.Z2 (b o sp:Nat):(Sl.BV b o sp).cap=0:=rfl
@[simp] theorem Sl.NS:Sl.nil.len=0:=rfl
@[simp] theorem Sl.Z3:Sl.nil.cap=0:=rfl
@[simp] theorem Sl.amW:Sl.nil.ao=0:=rfl
@[simp] theorem Sl.amX:Sl.nil.off=0:=rfl
@[simp] theorem Sl.eO (b o l c:Nat):(Sl.mk b o l c).len=l:=rfl
@[simp] theorem Sl.NU (b o l c:Nat):(Sl.mk b o l c).cap=c:=rfl
@[simp] theorem Sl.gN (b o l c:Nat):(Sl.mk b o l c).ao=b:=rfl
@[simp] theorem Sl.lQ (b o l c:Nat):(Sl.mk b o l c).off=o:=rfl
def Sl.DF:Sl->Bool
 | .nil=>true
 | .mk _ _ _ _=>false
 | .BV _ _ _=>false
@[simp] theorem Sl.ahn:Sl.nil.DF=true:=rfl
@[simp] theorem Sl.aho (b o sp:Nat):(Sl.BV b o sp).DF=false:=rfl
@[simp] theorem Sl.aix (b o l c:Nat):(Sl.mk b o l c).DF=false:=rfl
def Sl.bN:Sl->Option Addr
 | .nil=>none
 | .mk b o _ _=>some ⟨b,o,none⟩
 | .BV b o sp=>some ⟨b,o,some sp⟩
theorem Sl.aeZ(s:Sl):s.v=.slice s.bN s.len s.cap:=by cases s<;>rfl
inductive Ce where
 |i (n:Int)
 |u (k:IntKind) (n:Int)
 |t (x:Bool)
 |s (x:Sl)
 |p (b o:Nat)
 |pn
 |fn (f:Fn) (first captured:Array Value)
 |fv (q:Fn×Array Value×Array Value)
 |nf
 |str (x:ByteArray)
 |mp (b:Nat)
 |mn
 |bp (k b o:Nat)
def Ce.v:Ce->Value
 | .i n=>.int .i64 n
 | .u k n=>.int k n
 | .t x=>.bool x
 | .s x=>x.v
 | .p b o=>.pointer (some ⟨b,o,none⟩)
 | .pn=>.pointer none
 | .fn f a c=>.func f a c
 | .fv q=>.func q.1 q.2.1 q.2.2
 | .nf=>.nilFunc
 | .str x=>.string x
 | .mp b=>.map (some b)
 | .mn=>.map none
 | .bp _ b o=>.pointer (some ⟨b,o,none⟩)
inductive AV where
 |c (x:Ce)
 |agg (l:List Ce)
def AV.v:AV->Value
 | .c x=>x.v
 | .agg l=>.agg (l.map Ce.v).toArray
inductive SV where
 |c (x:Ce)
 |tt
 |ff
 |agg (l:List Ce)
 |tup (l:List AV)
 |un
 |fC
 |box (b e:Nat) (l:List Ce)
 |xB (b e:Nat) (l:List Ce)
def SV.v:SV->Value
 | .c x=>x.v
 | .tt=>.bool true
 | .ff=>.bool false
 | .agg l=>.agg (l.map Ce.v).toArray
 | .tup l=>.tuple (l.map AV.v).toArray
 | .un=>undef
 | .fC=>undef
 | .box _ _ _=>undef
 | .xB _ _ _=>undef
def SV.Is:SV->Value->Prop
 | .fC,_=>True
 | .box _ _ _,_=>True
 | .xB _ _ _,_=>True
 |s,v=>v=s.v
def AV.sv:AV->SV
 | .c x=>.c x
 | .agg l=>.agg l
theorem AV.aot(x:AV):x.sv.v=x.v:=by cases x<;>rfl
abbrev Fr:=List (Nat×SV)
def eJ:Fr->Nat->SV
 |[],_=>.fC
 |(u,x)::r,t=>bif Nat.beq u t then x else eJ r t
def SV.nb:SV->SV
 | .box _ _ _=>.fC
 | .xB _ _ _=>.fC
 |x=>x
def rL(fr:Fr)(d:Option Nat)(x:SV):Fr:=
 match d with
 |some d=>(d,x.nb)::fr
 |none=>fr
theorem SV.Wb{x:SV}{v:Value}(h:x.Is v):x.nb.Is v:=by
 cases x<;>first|exact h|trivial
theorem Ce.jm(x:Ce):x.v.cells=#[x.v]:=by
 cases x with
 |s y=>cases y<;>rfl
 |_=>rfl
def iD:Value->Option Ce
 | .int .i64 n=>some (.i n)
 | .int k n=>some (.u k n)
 | .bool x=>some (.t x)
 | .slice none 0 0=>some (.s .nil)
 | .pointer none=>some .pn
 | .nilFunc=>some .nf
 | .string x=>some (.str x)
 |_=>none
theorem MP{x:Value}{c:Ce}(h:iD x=some c):c.v=x:=by
 unfold iD at h;split at h<;>simp at h<;>subst h<;>rfl
def mO:List Value->Option (List Ce)
 |[]=>some []
 |v::vs=>match iD v,mO vs with
  |some c,some cs=>some (c::cs)
  |_,_=>none
theorem JD:∀{vs:List Value}{cs:List Ce},mO vs=some cs->cs.map Ce.v=vs
 |[],_,h=>by simp[mO]at h;subst h;rfl
 |v::vs,cs,h=>by
  simp only[mO]at h;split at h
  ·rename_i c cs' h1 h2;simp at h;subst h;simp[MP h1,JD h2]
  ·simp at h
def DG:Value->SV
 | .bool true=>.tt
 | .bool false=>.ff
 | .agg cs=>match mO cs.toList with
  |some l=>.agg l
  |none=>.fC
 | .tuple vs=>bif vs.toList.isEmpty then .un else .fC
 |v=>match iD v with
  |some c=>.c c
  |none=>.fC
theorem Ri(x:Value):(DG x).Is x:=by
 unfold DG;split
 ·rfl
 ·rfl
 ·rename_i cs;split
  ·rename_i l hl;show Value.agg cs=.agg (l.map Ce.v).toArray;rw[JD hl]
  ·trivial
 ·rename_i vs;cases h:vs.toList.isEmpty
  ·trivial
  ·show Value.tuple vs=undef;have:vs=#[]:=by simpa using h
   rw[this];rfl
 ·split
  ·rename_i c hc;exact(MP hc).symm
  ·trivial
def ev(fr:Fr):Operand->SV
 | .tmp t=>(eJ fr t).nb
 | .const v=>DG v
 | .global g=>.c (.p g 0)
 | .func f=>.c (.fn (.func f) #[] #[])
structure gW(n:Nat)(fr:Fr)(a:Act):Prop where
 size:a.tmps.size=n
 defers:a.defers=[]
 aE:∀t,(eJ fr t).Is (a.tmps.getD t undef)
theorem gW.ev{n:Nat}{fr:Fr}{a:Act}(h:gW n fr a)(x:Operand):(ev fr x).Is (a.eval x):=by
 cases x with
 |tmp t=>exact SV.Wb (h.aE t)
 |const v=>exact Ri v
 |global g=>rfl
 |func f=>rfl
theorem gW.put{n:Nat}{fr:Fr}{a:Act}(h:gW n fr a){d:Option Nat}{x:SV}{v:Value}(hx:x.Is v)(hd:∀t,d=some t->t<n):
 gW n (rL fr d x) (a.put d v):=by
 cases d with
 |none=>exact h
 |some d=>
  refine⟨by simpa[Act.put]using h.size,h.defers,λt=>?_⟩
  have cA:d<a.tmps.size:=by rw[h.size];exact hd d rfl
  simp only[rL,eJ,Act.put]
  by_cases e:d=t
  ·subst e
   simp only[Nat.beq_refl,aG4]
   simpa[cA]using SV.Wb hx
  ·have:Nat.beq d t=false:=by
    cases hb:Nat.beq d t
    ·rfl
    ·exact absurd (aF2 hb) e
   simp only[this,aHd]
   have:=h.aE t
   simpa[aGI e]using this
theorem gW.cons{n:Nat}{fr:Fr}{a:Act}(h:gW n fr a)(t:Nat){x:SV}(hx:∀v,x.Is v):gW n ((t,x)::fr) a:=by
 refine⟨h.size,h.defers,λu=>?_⟩;simp only[eJ];cases hb:Nat.beq t u
 ·exact h.aE u
 ·exact hx _
theorem gW.fC{n:Nat}{fr:Fr}{a:Act}(h:gW n fr a)(t:Nat):gW n ((t,.fC)::fr) a:=by
 refine⟨h.size,h.defers,λu=>?_⟩;simp only[eJ];cases hb:Nat.beq t u
 ·exact h.aE u
 ·trivial
end Go.Vc
end
section
namespace Go.Vc
inductive Sh where
 |I
 |U (k:IntKind)
 |T
 |S
 |P
 |F
 |M
 deriving DecidableEq
abbrev Sh.ty:Sh->Type
 | .I=>Int
 | .U _=>Int
 | .T=>Bool
 | .S=>Sl
 | .P=>Nat×Nat
 | .F=>Fn×Array Value×Array Value
 | .M=>Nat
abbrev Sh.mk:(s:Sh)->s.ty->Ce
 | .I,n=>.i n
 | .U k,n=>.u k n
 | .T,x=>.t x
 | .S,x=>.s x
 | .P,q=>.p q.1 q.2
 | .F,v=>.fv v
 | .M,b=>.mp b
def Sh.zero:Sh->Ce
 | .I=>.i 0
 | .U k=>.u k 0
 | .T=>.t false
 | .S=>.s .nil
 | .P=>.pn
 | .F=>.nf
 | .M=>.mn
inductive TK where
 |cell
 |slice (elem:Nat)
 |struct (kG:List (Nat×Nat))
 |tuple (ts:List Nat)
 |map (key elem:Nat)
structure TI where
 FK:TK
 sh:List Sh
 bytes:Nat
abbrev TT:=List (Nat×TI)
def dP:TT->Nat->Option TI
 |[],_=>none
 |(u,x)::r,t=>bif Nat.beq u t then some x else dP r t
def NV:Sh->Value->Bool
 | .I,.int .i64 0=>true
 | .U k,.int k' 0=>decide (k=k')
 | .T,.bool false=>true
 | .S,.slice none 0 0=>true
 | .P,.pointer none=>true
 | .F,.nilFunc=>true
 | .M,.map none=>true
 |_,_=>false
theorem NW{s:Sh}{v:Value}(h:NV s v=true):v=s.zero.v:=by
 unfold NV at h;split at h<;>first|rfl|(simp at h;subst h;rfl)|simp at h
def BW:List Value->List Sh->Bool
 |[],[]=>true
 |v::vs,s::ss=>NV s v&&BW vs ss
 |_,_=>false
theorem xC:∀{vs:List Value}{ss:List Sh},BW vs ss=true->vs=ss.map λs=>s.zero.v
 |[],[],_=>rfl
 |v::vs,s::ss,h=>by
  simp only[BW,aF6]at h;simp[NW h.1,xC h.2]
 |[],_::_,h=>by simp[BW]at h
 |_::_,[],h=>by simp[BW]at h
def MQ:List Field->List (Nat×Nat)->Bool
 |[],[]=>true
 |f::fs,(o,t)::r=>Nat.beq f.offset o&&Nat.beq f.type t&&MQ fs r
 |_,_=>false
theorem JE:∀{fs:List Field}{os:List (Nat×Nat)},MQ fs os=true->fs.map (λf=>(f.offset,f.type))=os
 |[],[],_=>rfl
 |f::fs,(o,t)::r,h=>by
  simp only[MQ,aF6]at h;simp[aF2 h.1.1,aF2 h.1.2,JE h.2]
 |[],_::_,h=>by simp[MQ]at h
 |_::_,[],h=>by simp[MQ]at h
def BY:TypeDesc->List Sh->Bool
 | .bool,[.T]=>true
 | .int .i64,[.I]=>true
 | .int k,[.U k']=>decide (k=k')
 | .pointer _,[.P]=>true
 | .func ..,[.F]=>true
 |_,_=>false
def zJ(i:TypeInfo)(ti:TI)(agg:Bool):Bool:=
 Nat.beq i.size ti.sh.length&&Nat.beq i.bytes ti.bytes&&
 (match i.zero with
  |some (.agg cs)=>agg&&BW cs.toList ti.sh
  |some z=>!agg&&BW [z] ti.sh
  |none=>false)
def zK(P:Program)(t:Nat)(ti:TI):Bool:=
 match ti.FK with
 | .tuple _=>true
 | .slice e=>match P.info? t,P.underlying t with
  |some i,some (.slice e')=>Nat.beq e e'&&zJ i ti false
  |_,_=>false
 | .struct kG=>match P.info? t,P.underlying t with
  |some i,some (.struct fs)=>MQ fs.toList kG&&zJ i ti true
  |_,_=>false
 | .map k e=>match P.info? t,P.underlying t with
  |some i,some (.map k' e')=>Nat.beq k k'&&Nat.beq e e'&&zJ i ti false
  |_,_=>false
 | .cell=>match P.info? t,P.underlying t with
  |some i,some d=>BY d ti.sh&&zJ i ti false
  |_,_=>false
def uK(P:Program)(T:TT):Prop:=T.all (λx=>zK P x.1 x.2)=true
theorem Ps:∀{T:TT}{t:Nat}{ti:TI},dP T t=some ti->(t,ti)∈T
 |[],_,_,h=>by simp[dP]at h
 |(u,x)::r,t,ti,h=>by
  simp only[dP]at h;cases hb:Nat.beq u t
  ·rw[hb]at h;exact aFT _ (Ps h)
  ·rw[hb]at h;have:=aF2 hb;simp at h;subst h;subst this;exact aF3
theorem uK.zK{P:Program}{T:TT}(h:uK P T){t:Nat}{ti:TI}(hg:dP T t=some ti):zK P t ti=true:=
 List.all_eq_true.1 h _ (Ps hg)
structure JF(P:Program)(t:Nat)(ti:TI)(agg:Bool):Prop where
 axl:∃i,P.info? t=some i/\i.size=ti.sh.length/\i.bytes=ti.bytes/\
  ∃z,i.zero=some z/\z.cells.toList=(ti.sh.map λs=>s.zero.v)/\(agg=false->∀cs,z≠.agg cs)
theorem pY{P:Program}{t:Nat}{ti:TI}{i:TypeInfo}{agg:Bool}(hi:P.info? t=some i)(h:zJ i ti agg=true):JF P t ti agg:=by
 simp only[zJ,aF6]at h;refine⟨i,hi,aF2 h.1.1,aF2 h.1.2,?_⟩;have h2:=h.2;split at h2
 ·rename_i cs hz;simp only[aF6]at h2;exact⟨_,hz,by simpa[Value.cells]using xC h2.2,λh0=>by rw[h0]at h2;simp at h2⟩
 ·rename_i z cx hz;simp only[aF6]at h2;refine⟨_,hz,?_,λ_ cs e=>cx cs (by rw[e])⟩;have:=xC h2.2;rw[<-this];cases z<;>first|rfl|exact(cx _ rfl).elim
 ·simp at h2
theorem gX{P:Program}{t:Nat}{e:Nat}{sh:List Sh}{b:Nat}(h:zK P t ⟨.slice e,sh,b⟩=true):P.underlying t=some (.slice e)/\JF P t ⟨.slice e,sh,b⟩ false:=by
 simp only[zK]at h;split at h
 ·rename_i i e' hi hu;simp only[aF6]at h;have:=aF2 h.1;subst this;exact⟨hu,pY hi h.2⟩
 ·simp at h
theorem zL{P:Program}{t:Nat}{k e:Nat}{sh:List Sh}{b:Nat}(h:zK P t ⟨.map k e,sh,b⟩=true):P.underlying t=some (.map k e)/\JF P t ⟨.map k e,sh,b⟩ false:=by
 simp only[zK]at h;split at h
 ·rename_i i k' e' hi hu;simp only[aF6]at h;have h1:=aF2 h.1.1;have h2:=aF2 h.1.2;subst h1;subst h2;exact⟨hu,pY hi h.2⟩
 ·simp at h
theorem lR{P:Program}{t:Nat}{kG:List (Nat×Nat)}{sh:List Sh}{b:Nat}(h:zK P t ⟨.struct kG,sh,b⟩=true):
 (∃fs,P.underlying t=some (.struct fs)/\fs.toList.map (λf=>(f.offset,f.type))=kG)/\JF P t ⟨.struct kG,sh,b⟩ true:=by
 simp only[zK]at h
 split at h
 ·rename_i i fs hi hu
  simp only[aF6]at h
  exact⟨⟨fs,hu,JE h.1⟩,pY hi h.2⟩
 ·simp at h
theorem mP{P:Program}{t:Nat}{sh:List Sh}{b:Nat}(h:zK P t ⟨.cell,sh,b⟩=true):
 (∃d,P.underlying t=some d/\BY d sh=true)/\JF P t ⟨.cell,sh,b⟩ false:=by
 simp only[zK]at h
 split at h
 ·rename_i i d hi hu
  simp only[aF6]at h
  exact⟨⟨d,hu,h.1⟩,pY hi h.2⟩
 ·simp at h
def TI.agg(ti:TI):Bool:=match ti.FK with| .struct _=>true|_=>false
def TI.sq(ti:TI):Bool:=match ti.FK with| .tuple _=>true|_=>false
theorem ib{P:Program}{T:TT}(hT:uK P T){t:Nat}{ti:TI}(hg:dP T t=some ti)(hn:ti.sq=false)(w:World):
 (sizeOf t).run P w=.ok ti.sh.length w:=by
 have h:=hT.zK hg
 obtain⟨FK,sh,b⟩:=ti
 have:∃i,P.info? t=some i/\i.size=sh.length:=by
  cases FK with
  |cell=>obtain⟨_,⟨i,h1,h2,_⟩⟩:=mP h;exact⟨i,h1,h2⟩
  |slice e=>obtain⟨_,⟨i,h1,h2,_⟩⟩:=gX h;exact⟨i,h1,h2⟩
  |map k e=>obtain⟨_,⟨i,h1,h2,_⟩⟩:=zL h;exact⟨i,h1,h2⟩
  |struct o=>obtain⟨_,⟨i,h1,h2,_⟩⟩:=lR h;exact⟨i,h1,h2⟩
  |tuple ts=>simp[TI.sq]at hn
 obtain⟨i,h1,h2⟩:=this
 simp[sizeOf,typeInfo,h1,h2]
theorem DH{P:Program}{T:TT}(hT:uK P T){t:Nat}{ti:TI}(hg:dP T t=some ti)(hn:ti.sq=false):
 ∃i,i.bytes=ti.bytes/\i.size=ti.sh.length/\(∀w,(typeInfo t).run P w=.ok i w)/\P.info? t=some i:=by
 have h:=hT.zK hg
 obtain⟨FK,sh,b⟩:=ti
 have:∃i,P.info? t=some i/\i.size=sh.length/\i.bytes=b:=by
  cases FK with
  |cell=>obtain⟨_,⟨i,h1,h2,h3,_⟩⟩:=mP h;exact⟨i,h1,h2,h3⟩
  |slice e=>obtain⟨_,⟨i,h1,h2,h3,_⟩⟩:=gX h;exact⟨i,h1,h2,h3⟩
  |map k e=>obtain⟨_,⟨i,h1,h2,h3,_⟩⟩:=zL h;exact⟨i,h1,h2,h3⟩
  |struct o=>obtain⟨_,⟨i,h1,h2,h3,_⟩⟩:=lR h;exact⟨i,h1,h2,h3⟩
  |tuple ts=>simp[TI.sq]at hn
 obtain⟨i,h1,h2,h3⟩:=this
 exact⟨i,h3,h2,λw=>by simp[typeInfo,h1],h1⟩
theorem tF{P:Program}{T:TT}(hT:uK P T){t:Nat}{ti:TI}(hg:dP T t=some ti)(hn:ti.sq=false):
 ∃z,z.cells.toList=ti.sh.map (λs=>s.zero.v)/\(∀w,(zeroValue t).run P w=.ok z w)/\(ti.agg=false->∀cs,z≠.agg cs):=by
 have h:=hT.zK hg
 obtain⟨FK,sh,b⟩:=ti
 have:∃i,P.info? t=some i/\∃z,i.zero=some z/\z.cells.toList=(sh.map λs=>s.zero.v)/\((TI.mk FK sh b).agg=false->∀cs,z≠.agg cs):=by
  cases FK with
  |cell=>obtain⟨_,⟨i,h1,h2,h3,z,h4,h5,h6⟩⟩:=mP h;exact⟨i,h1,z,h4,h5,λ_=>h6 rfl⟩
  |slice e=>obtain⟨_,⟨i,h1,h2,h3,z,h4,h5,h6⟩⟩:=gX h;exact⟨i,h1,z,h4,h5,λ_=>h6 rfl⟩
  |map k e=>obtain⟨_,⟨i,h1,h2,h3,z,h4,h5,h6⟩⟩:=zL h;exact⟨i,h1,z,h4,h5,λ_=>h6 rfl⟩
  |struct o=>obtain⟨_,⟨i,h1,h2,h3,z,h4,h5,h6⟩⟩:=lR h;exact⟨i,h1,z,h4,h5,λh=>by simp[TI.agg]at h⟩
  |tuple ts=>simp[TI.sq]at hn
 obtain⟨i,h1,z,h2,h3,h4⟩:=this
 exact⟨z,h3,λw=>by simp[zeroValue,typeInfo,h1,h2],h4⟩
theorem MR{P:Program}{T:TT}(hT:uK P T){t:Nat}{ti:TI}(hg:dP T t=some ti)(hn:ti.sq=false)(w:World):
 (isAgg t).run P w=.ok ti.agg w:=by
 have h:=hT.zK hg
 obtain⟨FK,sh,b⟩:=ti
 cases FK with
 |cell=>
  obtain⟨⟨d,hd,hp⟩,_⟩:=mP h
  unfold BY at hp
  split at hp<;>first|(simp at hp;done)|simp[isAgg,run_underlying hd,TI.agg]
 |slice e=>obtain⟨hd,_⟩:=gX h;simp[isAgg,run_underlying hd,TI.agg]
 |map k e=>obtain⟨hd,_⟩:=zL h;simp[isAgg,run_underlying hd,TI.agg]
 |struct o=>obtain⟨⟨fs,hd,_⟩,_⟩:=lR h;simp[isAgg,run_underlying hd,TI.agg]
 |tuple ts=>simp[TI.sq]at hn
end Go.Vc
end
section
namespace Go.Vc
def iZ:SV->Option Bool
 | .tt=>some true
 | .ff=>some false
 | .c (.t x)=>some x
 |_=>none
def SV.fX:SV->Bool
 | .fC=>false
 | .box _ _ _=>false
 | .xB _ _ _=>false
 |_=>true
def bS(n:Int):Int:=IntKind.i64.wrap n
def FL{α:Type}:List α->Nat->Option α
 |[],_=>none
 |x::_,0=>some x
 |_::r,n+1=>FL r n
theorem mQ{α:Type}:∀(l:List α)(n:Nat),FL l n=l[n]?
 |[],_=>by simp[FL]
 |x::_,0=>by simp[FL]
 |_::r,n+1=>by simp[FL,mQ r n]
def ldC(m:ah)(b o:Nat):Nat->List Sh->(List Ce->Prop)->Prop
 |_,[],k=>k []
 |j,s::r,k=>∃x:s.ty,ad m b (o+j)=some (s.mk x).v/\ldC m b o (j+1) r λl=>k (s.mk x::l)
def Z4(a b:Int):Int:=bS ((a%18446744073709551616).toNat^^^(b%18446744073709551616).toNat:Nat)
def px(op:BinOp)(a b:Int)(k:SV->Prop):Prop:=
 match op with
 | .add=>k (.c (.i (bS (a+b))))
 | .sub=>k (.c (.i (bS (a -b))))
 | .mul=>k (.c (.i (bS (a*b))))
 | .quo=>b≠0/\k (.c (.i (bS (a.tdiv b))))
 | .rem=>b≠0/\k (.c (.i (a.tmod b)))
 | .xor=>k (.c (.i (Z4 a b)))
 | .eql=>k (.c (.t (a==b)))
 | .neq=>k (.c (.t (a !=b)))
 | .lss=>k (.c (.t (decide (a<b))))
 | .leq=>k (.c (.t (decide (a<=b))))
 | .gtr=>k (.c (.t (decide (a>b))))
 | .geq=>k (.c (.t (decide (a>=b))))
 |_=>False
def Z5(op:BinOp)(a b:Bool)(k:SV->Prop):Prop:=
 match op with
 | .eql=>k (.c (.t (a==b)))
 | .neq=>k (.c (.t (!(a==b))))
 |_=>False
def Z6(op:BinOp)(s:Sl)(k:SV->Prop):Prop:=
 match op with
 | .eql=>k (.c (.t s.DF))
 | .neq=>k (.c (.t (!s.DF)))
 |_=>False
def unO(op:UnOp)(x:SV)(k:SV->Prop):Prop:=
 match op,x with
 | .not,.tt=>k .ff
 | .not,.ff=>k .tt
 | .not,.c (.t b)=>k (.c (.t (!b)))
 | .neg,.c (.i n)=>k (.c (.i (bS (0 -n))))
 |_,_=>False
def Sl.cut(x:Sl)(lo hi size:Nat):Sl:=
 match x with
 | .nil=>.nil
 | .mk b o _ c=>.mk b (if c=lo then o else o+lo*size) (hi -lo) (c -lo)
 | .BV b o sp=>.BV b o sp
def SV.cells:SV->Option (List Ce)
 | .c x=>some [x]
 | .tt=>some [.t true]
 | .ff=>some [.t false]
 | .agg l=>some l
 |_=>none
def jy(l:List Ce)(off:Nat)(new:List Ce):List Ce:=
 match off,l with
 |0,l=>match new,l with
  |[],l=>l
  |n::new,_::l=>n::jy l 0 new
  |_::_,[]=>[]
 |off+1,x::l=>x::jy l off new
 |_+1,[]=>[]
termination_by structural l
def DI(T:TT)(fr:Fr)(kG:List (Nat×Nat)):List Ce->List (Nat×Operand)->(List Ce->Prop)->Prop
 |cs,[],k=>k cs
 |cs,(i,x)::r,k=>
  match FL kG i,(ev fr x).cells with
  |some (off,t),some new=>
   match dP T t with
   |some ti=>bif !ti.sq&&Nat.beq new.length ti.sh.length&&Nat.ble (off+new.length) cs.length then DI T fr kG (jy cs off new) r k else False
   |none=>False
  |_,_=>False
def ta(T:TT):List (Nat×Nat)->Bool
 |[]=>true
 |(_,t)::r=>(match dP T t with|some ti=>!ti.sq|none=>false)&&ta T r
def LV(fr:Fr)(x:Option Operand)(d:Int)(k:Int->Prop):Prop:=
 match x with
 |none=>k d
 |some x=>match ev fr x with
  | .c (.i n)=>k n
  |_=>False
def ae1(T:TT)(t:Nat)(s:Sl)(n:Int)(k:SV->Prop):Prop:=
 match dP T t with
 |some ⟨.slice e,_,_⟩=>match dP T e with
  |some te=>bif te.sq then False else 0<=n/\n<(s.len:Int)/\k (.c (.p s.ao (s.off+n.toNat*te.sh.length)))
  |none=>False
 |_=>False
def Pt(T:TT)(m:ah)(t b o:Nat)(k:SV->Prop):Prop:=
 match dP T t with
 |some ⟨.struct _,sh,_⟩=>ldC m b o 0 sh λl=>k (.agg l)
 |some ⟨.cell,[s],_⟩=>∃x:s.ty,ad m b o=some (s.mk x).v/\k (.c (s.mk x))
 |some ⟨.slice _,[_],_⟩=>∃x:Sl,ad m b o=some x.v/\k (.c (.s x))
 |_=>False
def Rj(T:TT)(fr:Fr)(t:Nat)(s:Sl)(lo hi:Option Operand)(k:SV->Prop):Prop:=
 match dP T t with
 |some ⟨.slice e,_,_⟩=>match dP T e with
  |some te=>bif te.sq then False else
   LV fr lo 0 λl=>LV fr hi (s.len:Int) λh=>0<=l/\l<=h/\h<=(s.cap:Int)/\k (.c (.s (s.cut l.toNat h.toNat te.sh.length)))
  |none=>False
 |_=>False
def NX(T:TT)(t f:Nat)(l:List Ce)(k:SV->Prop):Prop:=
 match dP T t with
 |some ⟨.struct kG,_,_⟩=>match FL kG f with
  |some (off,u)=>match dP T u with
   |some tu=>bif tu.sq then False else bif tu.agg then k (.agg ((l.drop off).take tu.sh.length))else(match FL l off with|some x=>k (.c x)|none=>False)
   |none=>False
  |none=>False
 |_=>False
def DJ(T:TT)(t f o:Nat)(mk:Nat->SV)(k:SV->Prop):Prop:=
 match dP T t with
 |some ⟨.struct kG,_,_⟩=>match FL kG f with
  |some (off,u)=>match dP T u with
   |some tu=>bif tu.sq||Nat.beq tu.sh.length 0 then False else k (mk (o+off))
   |none=>False
  |none=>False
 |_=>False
def NY(b' b:Nat)(k:Prop):Prop:=b'=b/\k
theorem aw(b:Nat)(k:Prop):NY b b k=k:=by simp[NY]
def DK:List Ce->Nat->Nat->Option (List Ce)
 |_,_,0=>some []
 |l,o,n+1=>match FL l o,DK l (o+1) n with
  |some c,some r=>some (c::r)
  |_,_=>none
def MS(T:TT)(t:Nat)(cs:List Ce)(o:Nat)(k:SV->Prop):Prop:=
 match dP T t with
 |some ⟨.struct _,sh,_⟩=>match DK cs o sh.length with
  |some l=>k (.agg l)
  |none=>False
 |some ⟨.cell,[_],_⟩=>match FL cs o with
  |some c=>k (.c c)
  |none=>False
 |some ⟨.slice _,[_],_⟩=>match FL cs o with
  |some c=>k (.c c)
  |none=>False
 |some ⟨.map _ _,[_],_⟩=>match FL cs o with
  |some c=>k (.c c)
  |none=>False
 |_=>False
def Wc(T:TT)(fr:Fr)(bi:Builtin)(ts:List Nat)(xs:List Operand)(k:SV->Prop):Prop:=
 match bi,ts,xs with
 | .len,[t],[x]=>match dP T t,ev fr x with
  |some ⟨.slice _,_,_⟩,.c (.s s)=>k (.c (.i (s.len:Int)))
  |_,_=>False
 | .max,_,[x,y]=>match ev fr x,ev fr y with
  | .c (.i a),.c (.i b)=>k (.c (.i (if b>a then b else a)))
  |_,_=>False
 | .min,_,[x,y]=>match ev fr x,ev fr y with
  | .c (.i a),.c (.i b)=>k (.c (.i (if b<a then b else a)))
  |_,_=>False
 |_,_,_=>False
def rd(T:TT)(fr:Fr)(m:ah)(k:SV->Prop):Op->Prop
 | .move x| .assign x=>k (ev fr x)
 | .pick c a b=>match ev fr c with
  | .tt=>k (ev fr a)
  | .ff=>k (ev fr b)
  | .c (.t x)=>match iZ (ev fr a),iZ (ev fr b)with
   |some y,some z=>k (.c (.t (bif x then y else z)))
   |_,_=>False
  |_=>False
 | .nilCheck x=>match ev fr x with
  | .c (.p b o)=>k (.c (.p b o))
  | .c (.bp q b o)=>k (.c (.bp q b o))
  | .c (.fn (.func f) a c)=>k (.c (.fn (.func f) a c))
  | .c (.fv q)=>∃g,q.1=.func g/\k (.c (.fv q))
  |_=>False
 | .binOp op t x y _=>match ev fr x,ev fr y with
  | .c (.i a),.c (.i b)=>px op a b k
  | .c (.s s),.c (.s .nil)=>match dP T t with
   |some ⟨.slice _,_,_⟩=>Z6 op s k
   |_=>False
  |sx,sy=>match dP T t,iZ sx,iZ sy with
   |some ⟨.cell,[.T],_⟩,some a,some b=>Z5 op a b k
   |_,_,_=>False
 | .unOp op _ x=>unO op (ev fr x) k
 | .convert s t x=>match dP T s,dP T t,ev fr x with
  |some ⟨.cell,[_],_⟩,some ⟨.cell,[.I],_⟩,.c (.u _ n)=>k (.c (.i (bS n)))
  |_,_,_=>False
 | .fieldAddr t x f=>match ev fr x with
  | .c (.p b o)=>DJ T t f o (λo=>.c (.p b o)) k
  | .c (.bp q b o)=>DJ T t f o (λo=>.c (.bp q b o)) k
  |_=>False
 | .field t x f=>match ev fr x with
  | .agg l=>NX T t f l k
  |_=>False
 | .indexAddr t x i=>match ev fr x,ev fr i with
  | .c (.s s),.c (.i n)=>ae1 T t s n k
  |_,_=>False
 | .load t x=>match ev fr x with
  | .c (.p b o)=>Pt T m t b o k
  | .c (.bp q b o)=>match eJ fr q with
   | .box b' _ cs=>NY b' b (MS T t cs o k)
   | .xB b' _ cs=>NY b' b (MS T t cs o k)
   |_=>Pt T m t b o k
  |_=>False
 | .extract x i=>match ev fr x with
  | .tup l=>match FL l i with
   |some y=>k y.sv
   |none=>False
  |_=>False
 | .slice t x lo hi none=>match ev fr x with
  | .c (.s s)=>Rj T fr t s lo hi k
  |_=>False
 | .build t parts=>match dP T t with
  |some ⟨.struct kG,sh,_⟩=>bif ta T kG then DI T fr kG (sh.map Sh.zero) parts.toList λl=>k (.agg l)else False
  |_=>False
 | .call ⟨.builtin bi,args,ts⟩=>Wc T fr bi ts.toList args.toList k
 |_=>False
def jo(fr:Fr)(q b e:Nat)(l:List Ce):Prop:=eJ fr q=.box b e l\/eJ fr q=.xB b e l
structure Bx(n:Nat)(fr:Fr)(m:ah):Prop where
 ao:∀q b e l,jo fr q b e l->m[b]? =some (.cells (l.map Ce.v).toArray e)
 NZ:∀q q' b e l b' e' l',q≠q'->jo fr q b e l->jo fr q' b' e' l'->b≠b'
 key:∀q b e l,jo fr q b e l->n<=q
def VI(T:TT)(fr:Fr):Op->List (Nat×Nat)
 | .load t x=>match ev fr x,dP T t with
  | .c (.p b o),some ti=>(List.range ti.sh.length).map λj=>(b,o+j)
  | .c (.bp _ b o),some ti=>(List.range ti.sh.length).map λj=>(b,o+j)
  |_,_=>[]
 |_=>[]
end Go.Vc
end
section
namespace Go.Vc
theorem SV.Is.eq{s:SV}{v:Value}(h:s.Is v)(hk:s.fX=true):v=s.v:=by
 cases s<;>first|exact h|simp[SV.fX]at hk
theorem lS(s:SV):s.Is s.v:=by cases s<;>first|rfl|trivial
theorem gW.eq{n:Nat}{fr:Fr}{a:Act}(h:gW n fr a){x:Operand}{s:SV}(he:Vc.ev fr x=s)(hk:s.fX=true):a.eval x=s.v:=by
 have:=h.ev x;rw[he]at this;exact this.eq hk
theorem uL{s:SV}{b:Bool}(h:iZ s=some b):s.fX=true/\s.v=.bool b:=by
 unfold iZ at h;split at h<;>simp_all [SV.fX,SV.v,Ce.v]
theorem gW.evB{n:Nat}{fr:Fr}{a:Act}(h:gW n fr a){x:Operand}{b:Bool}(hb:iZ (Vc.ev fr x)=some b):a.eval x=.bool b:=by
 rw[h.eq rfl (uL hb).1,(uL hb).2]
theorem tG(b o n:Nat):(⟨b,o,none⟩:Addr).add n=⟨b,o+n,none⟩:=by
 unfold Addr.add;split
 ·rename_i h;subst h;rfl
 ·rfl
theorem zN:∀(l:List Ce)(off:Nat)(new:List Ce)(i:Nat),off+new.length<=l.length->
 (jy l off new)[i]? =if off<=i/\i<off+new.length then new[i -off]? else l[i]?
 |[],0,[],i,_=>by simp[jy]
 |[],0,_::_,_,h=>by simp at h
 |[],_+1,_,_,h=>by simp at h
 |x::l,0,[],i,_=>by simp[jy]
 |x::l,0,n::new,i,h=>by
  simp only[jy];cases i with
  |zero=>simp
  |succ i=>
   have:=zN l 0 new i (by simp at h;omega);simp only[aGA,this];simp
 |x::l,off+1,new,i,h=>by
  simp only[jy];cases i with
  |zero=>simp
  |succ i=>
   have:=zN l off new i (by simp at h;omega);simp only[aGA,this];have e:(i+1 -(off+1))=i -off:=ab;simp only[e];congr 1;simp;omega
theorem MT(new:List Value):∀(k off:Nat)(cells:Array Value)(i:Nat),
 ((new.zipIdx k).foldl (λ(cs:Array Value)(p:Value×Nat)=>cs.setIfInBounds (off+p.2) p.1) cells)[i]? =
  if off+k<=i/\i<off+k+new.length/\i<cells.size then new[i -(off+k)]? else cells[i]? :=by
 induction new with
 |nil=>intro k off cells i;simp;intro h;omega
 |cons v new ih=>
  intro k off cells i
  simp only[List.zipIdx_cons,List.foldl_cons,ih,Array.size_setIfInBounds,aF5]
  by_cases h1:i=off+k
  ·subst h1
   by_cases h2:off+k<cells.size
   ·simp[h2];try omega
   ·simp[h2];try omega
  ·have:¬(off+k=i):=λe=>h1 e.symm
   rw[aGI this]
   by_cases h3:off+k<=i/\i<off+k+(new.length+1)/\i<cells.size
   ·rw[aFW h3,aFW ab]
    have:i -(off+k)=(i -(off+(k+1)))+1:=ab
    rw[this,aGA]
   ·rw[aFS h3,aFS ab]
theorem mR{s:SV}{l:List Ce}(h:s.cells=some l):s.fX=true/\s.v.cells=(l.map Ce.v).toArray:=by
 cases s with
 |c x=>simp[SV.cells]at h;subst h;exact⟨rfl,by simp[SV.v,Ce.jm]⟩
 |tt=>simp[SV.cells]at h;subst h;exact⟨rfl,rfl⟩
 |ff=>simp[SV.cells]at h;subst h;exact⟨rfl,rfl⟩
 |agg l'=>simp[SV.cells]at h;subst h;exact⟨rfl,rfl⟩
 |tup _=>simp[SV.cells]at h
 |un=>simp[SV.cells]at h
 |fC=>simp[SV.cells]at h
 |box _ _ _=>simp[SV.cells]at h
 |xB _ _ _=>simp[SV.cells]at h
end Go.Vc
end
section
namespace Go.Vc
variable{P:Program}{T:TT}
def ms(P:Program)(T:TT)(fr:Fr)(m:ah)(a:Act)(o:Oper)(k:SV->Prop):Prop:=
 ∃x v,k x/\x.Is v/\∀w:World,(∀q∈VI T fr o.op,ad w.heap q.1 q.2=ad m q.1 q.2)->(execOp a.eval o).run P w=.ok (.value v) w
section
variable{n:Nat}{fr:Fr}{a:Act}{m:ah}{k:SV->Prop}{dst:Option Tmp}{ty:TypeId}{pos:String}{after:Array Edge}{guard:Option (Nat×Bool)}
theorem Wd(hR:gW n fr a){x:Operand}(h:k (ev fr x)):ms P T fr m a ⟨dst,.move x,ty,pos,after,guard⟩ k:=
 ⟨_,_,h,hR.ev x,λw _=>by simp[execOp]⟩
theorem UB(hR:gW n fr a){x:Operand}(h:k (ev fr x)):ms P T fr m a ⟨dst,.assign x,ty,pos,after,guard⟩ k:=
 ⟨_,_,h,hR.ev x,λw _=>by simp[execOp]⟩
theorem Rk(hR:gW n fr a){c x y:Operand}(h:rd T fr m k (.pick c x y)):ms P T fr m a ⟨dst,.pick c x y,ty,pos,after,guard⟩ k:=by
 simp only[rd]at h;split at h
 ·rename_i hc;exact⟨_,_,h,hR.ev x,λw _=>by simp[execOp,hR.eq hc rfl,SV.v,asBool]⟩
 ·rename_i hc;exact⟨_,_,h,hR.ev y,λw _=>by simp[execOp,hR.eq hc rfl,SV.v,asBool]⟩
 ·rename_i b hc;split at h
  ·rename_i y' z' hy hz;refine⟨_,_,h,lS _,λw _=>?_⟩;simp[execOp,hR.eq hc rfl,SV.v,Ce.v,asBool,hR.evB hy,hR.evB hz];try (cases b<;>rfl)
  ·exact h.elim
 ·exact h.elim
theorem JG(hR:gW n fr a){x:Operand}(h:rd T fr m k (.nilCheck x)):ms P T fr m a ⟨dst,.nilCheck x,ty,pos,after,guard⟩ k:=by
 simp only[rd]at h;split at h
 ·rename_i b o hc;exact⟨_,_,h,lS _,λw _=>by simp[execOp,hR.eq hc rfl,SV.v,Ce.v]⟩
 ·rename_i q b o hc;exact⟨_,_,h,lS _,λw _=>by simp[execOp,hR.eq hc rfl,SV.v,Ce.v]⟩
 ·rename_i f a' c' hc;exact⟨_,_,h,lS _,λw _=>by simp[execOp,hR.eq hc rfl,SV.v,Ce.v]⟩
 ·rename_i q hc;obtain⟨g,hg,hk⟩:=h;exact⟨_,_,hk,lS _,λw _=>by simp[execOp,hR.eq hc rfl,SV.v,Ce.v,hg]⟩
 ·exact h.elim
theorem Z7{op:BinOp}{t:TypeId}{x y:Int}(h:px op x y k):∃s v,k s/\s.Is v/\∀w:World,(binOp op t (.int .i64 x) (.int .i64 y)).run P w=.ok v w:=by
 cases op<;>simp only[px]at h
 case quo=>exact⟨_,_,h.2,lS _,λw=>by simp[binOp,Op.intDiv,h.1,SV.v,Ce.v,bS]⟩
 case rem=>exact⟨_,_,h.2,lS _,λw=>by simp[binOp,Op.intDiv,h.1,SV.v,Ce.v]⟩
 case xor=>exact⟨_,_,h,lS _,λw=>by simp[binOp,Op.intBits,SV.v,Ce.v,bS,Z4,IntKind.bits];rfl⟩
 all_goals exact⟨_,_,h,lS _,λw=>by simp[binOp,Op.intArith,Op.intCmp,SV.v,Ce.v,bS]⟩
theorem Pu(op:BinOp)(t:TypeId)(ox oy:Operand)(k':IntKind)(x:Int)(y:Value)(w:World):(eqGuard op t ox oy (.int k' x) y).run P w=.ok () w:=by
 cases op<;>simp[eqGuard]
theorem N3(op:BinOp)(t:TypeId)(ox oy:Operand)(x:Bool)(y:Value)(w:World):(eqGuard op t ox oy (.bool x) y).run P w=.ok () w:=by
 cases op<;>simp[eqGuard]
theorem Rl{t:TypeId}(hd:P.underlying t=some .bool)(x y:Bool)(w:World):(Op.equal t (.bool x) (.bool y)).run P w=.ok (x==y) w:=by
 have:Op.equal t (.bool x) (.bool y)=Op.equalIn (9999+1) t (.bool x) (.bool y):=rfl;rw[this];generalize 9999=d;simp[Op.equalIn,run_underlying hd]
theorem Io{t e:TypeId}(hd:P.underlying t=some (.slice e))(s:Sl)(w:World):(Op.equal t s.v (.slice none 0 0)).run P w=.ok s.DF w:=by
 have:Op.equal t s.v (.slice none 0 0)=Op.equalIn (9999+1) t s.v (.slice none 0 0):=rfl;rw[this];generalize 9999=d;cases s<;>simp[Op.equalIn,run_underlying hd,Sl.v]
theorem LX(op:BinOp)(t:TypeId)(ox oy:Operand)(s:Sl)(y:Value)(w:World):(eqGuard op t ox oy s.v y).run P w=.ok () w:=by
 cases s<;>cases op<;>simp[eqGuard,Sl.v]
theorem Pv(hT:uK P T)(hR:gW n fr a){op:BinOp}{t yt:TypeId}{x y:Operand}(h:rd T fr m k (.binOp op t x y yt)):ms P T fr m a ⟨dst,.binOp op t x y yt,ty,pos,after,guard⟩ k:=by
 simp only[rd]at h;split at h
 ·rename_i p q hx hy;obtain⟨s,v,hk,his,lF⟩:=Z7 (P:=P) (t:=t) h;refine⟨s,v,hk,his,λw _=>?_⟩;simp only[execOp,hR.eq hx rfl,hR.eq hy rfl,SV.v,Ce.v,Sem.run_bind];simp[Pu,lF]
 ·rename_i s hx hy;split at h
  ·rename_i e sh OL ht;have hu:=(gX (hT.zK ht)).1;have ph:a.eval x=s.v:=hR.eq hx rfl;have lj:a.eval y=.slice none 0 0:=hR.eq hy rfl;cases op<;>simp only[Z6]at h
   all_goals
    first
    |exact h.elim
    |exact⟨_,_,h,lS _,λw _=>by
     have hb:∀o:BinOp,o=.eql\/o=.neq->binOp o t s.v (.slice none 0 0)=(if o=.eql then(do pure (.bool (<-Op.equal t s.v (.slice none 0 0))))else(do pure (.bool (!(<-Op.equal t s.v (.slice none 0 0)))))):=by
      intro o ho;rcases ho with rfl|rfl<;>cases s<;>rfl
     simp only[execOp,ph,lj,Sem.run_bind,LX,Result.andThen_ok];rw[hb _ az];simp[Io hu,SV.v,Ce.v]⟩
  ·exact h.elim
 ·split at h
  ·rename_i p q Si hx hy;obtain⟨⟨d,hd,hp⟩,_⟩:=mP (hT.zK Si);have hdb:d=.bool:=by
    cases d<;>simp_all [BY]
   subst hdb;cases op<;>simp only[Z5]at h
   all_goals
    first
    |exact h.elim
    |exact⟨_,_,h,lS _,λw _=>by
     simp only[execOp,hR.evB hx,hR.evB hy,Sem.run_bind,N3,Result.andThen,binOp,Rl hd];rfl⟩
  ·exact h.elim
theorem LY(hT:uK P T)(hR:gW n fr a){s t:TypeId}{x:Operand}(h:rd T fr m k (.convert s t x)):ms P T fr m a ⟨dst,.convert s t x,ty,pos,after,guard⟩ k:=by
 simp only[rd]at h;split at h
 ·rename_i sh b1 b2 k' q hs ht hx;obtain⟨⟨d,hd,_⟩,_⟩:=mP (hT.zK hs);obtain⟨⟨e,he,hp⟩,_⟩:=mP (hT.zK ht);have hi:e=.int .i64:=by unfold BY at hp;split at hp<;>simp_all
  subst hi;exact⟨_,_,h,lS _,λw _=>by
   simp only[execOp,hR.eq hx rfl,SV.v,Ce.v,Sem.run_bind];simp[convert,run_underlying hd,run_underlying he,Conv.intToInt,bS]⟩
 ·exact h.elim
theorem Rm(hR:gW n fr a){op:UnOp}{t:TypeId}{x:Operand}(h:rd T fr m k (.unOp op t x)):ms P T fr m a ⟨dst,.unOp op t x,ty,pos,after,guard⟩ k:=by
 simp only[rd]at h;generalize hx:ev fr x=sx at h;unfold unO at h;split at h
 ·exact⟨_,_,h,lS _,λw _=>by simp[execOp,hR.eq hx rfl,SV.v,Op.unary]⟩
 ·exact⟨_,_,h,lS _,λw _=>by simp[execOp,hR.eq hx rfl,SV.v,Op.unary]⟩
 ·exact⟨_,_,h,lS _,λw _=>by simp[execOp,hR.eq hx rfl,SV.v,Ce.v,Op.unary]⟩
 ·exact⟨_,_,h,lS _,λw _=>by simp[execOp,hR.eq hx rfl,SV.v,Ce.v,Op.unary,Op.intArith,bS]⟩
 ·exact h.elim
theorem Bp(hT:uK P T)(hR:gW n fr a){t:TypeId}{x:Operand}{f b o:Nat}{mk:Nat->SV}(hmk:∀o,(mk o).v=.pointer (some ⟨b,o,none⟩))(hx:a.eval x=.pointer (some ⟨b,o,none⟩))(h:DJ T t f o mk k):
 ms P T fr m a ⟨dst,.fieldAddr t x f,ty,pos,after,guard⟩ k:=by
 unfold DJ at h
 split at h
 ·rename_i kG sh OL ht
  split at h
  ·rename_i off u OM
   split at h
   ·rename_i tu hu
    cases hc:(tu.sq||Nat.beq tu.sh.length 0)
    ·rw[hc]at h
     simp only[aF9]at hc
     obtain⟨⟨fs,Dr,Qs⟩,_⟩:=lR (hT.zK ht)
     rw[mQ,<-Qs,aGb]at OM
     obtain⟨fl,gL,he⟩:=Option.map_eq_some_iff.1 OM
     simp only[aHX]at he
     obtain⟨rfl,rfl⟩:=he
     have vK:=λw=>ib hT hu hc.1 w
     have cx:tu.sh.length≠0:=λe=>by rw[e]at hc;simp at hc
     refine⟨_,_,h,lS _,λw _=>?_⟩
     have Va:fs[f]? =some fl:=by simpa using gL
     rw[hmk]
     simp[execOp,Instr.fieldAt,hx,run_underlying Dr,Va,Instr.sureAddr,fieldPlace,vK,cx,tG]
    ·rw[hc]at h;exact h.elim
   ·exact h.elim
  ·exact h.elim
 ·exact h.elim
theorem Ip(hT:uK P T)(hR:gW n fr a){t:TypeId}{x:Operand}{f:Nat}(h:rd T fr m k (.fieldAddr t x f)):ms P T fr m a ⟨dst,.fieldAddr t x f,ty,pos,after,guard⟩ k:=by
 simp only[rd]at h;split at h
 ·rename_i b o hx;exact Bp hT hR (λo=>rfl) (hR.eq hx rfl) h
 ·rename_i q b o hx;exact Bp hT hR (λo=>rfl) (hR.eq hx rfl) h
 ·exact h.elim
theorem Pw(hT:uK P T)(hR:gW n fr a){t:TypeId}{x:Operand}{f:Nat}(h:rd T fr m k (.field t x f)):ms P T fr m a ⟨dst,.field t x f,ty,pos,after,guard⟩ k:=by
 simp only[rd]at h;split at h
 ·rename_i l hx;unfold NX at h;split at h
  ·rename_i kG sh OL ht;split at h
   ·rename_i off u OM;split at h
    ·rename_i tu hu;cases hc:tu.sq
     ·rw[hc]at h;obtain⟨⟨fs,Dr,Qs⟩,_⟩:=lR (hT.zK ht);rw[mQ,<-Qs,aGb]at OM;obtain⟨fl,gL,he⟩:=Option.map_eq_some_iff.1 OM;simp only[aHX]at he;obtain⟨rfl,rfl⟩:=he;have vK:=λw=>ib hT hu hc w;have hag:=λw=>MR hT hu hc w;have Va:fs[f]? =some fl:=by simpa using gL
      cases hg:tu.agg
      ·simp only[hg,aHd]at h;split at h
       ·rename_i y hy;refine⟨_,_,h,lS _,λw _=>?_⟩;rw[mQ]at hy;simp[execOp,Instr.field,hR.eq hx rfl,SV.v,run_underlying Dr,Va,asAgg,part,hag,hg,hy]
       ·exact h.elim
      ·simp only[hg,aHd,aG4]at h;refine⟨_,_,h,lS _,λw _=>?_⟩;simp[execOp,Instr.field,hR.eq hx rfl,SV.v,run_underlying Dr,Va,asAgg,part,hag,hg,vK,List.map_drop,aHY]
     ·rw[hc]at h;exact h.elim
    ·exact h.elim
   ·exact h.elim
  ·exact h.elim
 ·exact h.elim
theorem Iq(hT:uK P T)(hR:gW n fr a){t:TypeId}{x y:Operand}(h:rd T fr m k (.indexAddr t x y)):ms P T fr m a ⟨dst,.indexAddr t x y,ty,pos,after,guard⟩ k:=by
 simp only[rd]at h;split at h
 ·rename_i s i hx hy;unfold ae1 at h;split at h
  ·rename_i e sh OL ht;split at h
   ·rename_i te he;cases hc:te.sq
    ·rw[hc]at h;obtain⟨h0,h1,h2⟩:=h;have hu:=(gX (hT.zK ht)).1;have vK:=λw=>ib hT he hc w;cases s with
     |nil=>simp[Sl.len]at h1;omega
     |BV _ _ _=>simp[Sl.len]at h1;omega
     |mk b o len cap=>
      refine⟨_,_,h2,lS _,λw _=>?_⟩;simp only[Sl.len]at h1;simp[execOp,Instr.indexAt,hR.eq hx rfl,hR.eq hy rfl,SV.v,Ce.v,Sl.v,asIntOf,run_underlying hu,h0,h1,vK,tG,Sl.ao,Sl.off]
    ·rw[hc]at h;exact h.elim
   ·exact h.elim
  ·exact h.elim
 ·exact h.elim
theorem Px:∀(sh:List Sh)(b o j:Nat)(k:List Ce->Prop),ldC m b o j sh k->∃l,k l/\l.length=sh.length/\∀i,i<sh.length->ad m b (o+j+i)=(l[i]?).map Ce.v
 |[],_,_,_,_,h=>⟨[],h,rfl,λi hi=>by simp at hi⟩
 |s::r,b,o,j,k,h=>by
  obtain⟨x,hx,h⟩:=h;obtain⟨l,hk,hl,hg⟩:=Px r b o (j+1) _ h;refine⟨s.mk x::l,hk,by simp[hl],λi hi=>?_⟩;cases i with
  |zero=>simpa using hx
  |succ i=>
   have:=hg i (by simpa using hi);have e:o+(j+1)+i=o+j+(i+1):=ab;rw[e]at this;simpa using this
theorem j9(hT:uK P T)(hR:gW n fr a){t:TypeId}{x:Operand}{b o:Nat}(hx:a.eval x=.pointer (some ⟨b,o,none⟩)){ti:TI}(ht:dP T t=some ti)(hnT:ti.sq=false)
 (hA:∀j,j<ti.sh.length->(b,o+j)∈VI T fr (.load t x)){l:List Ce}(hl:l.length=ti.sh.length)(hg:∀i,i<ti.sh.length->ad m b (o+i)=(l[i]?).map Ce.v)
 {s:SV}(hs:s.fX=true)(hsv:(ti.agg=true/\s.v=.agg (l.map Ce.v).toArray)\/(ti.agg=false/\∃c,l=[c]/\s.v=c.v))(hk:k s):
 ms P T fr m a ⟨dst,.load t x,ty,pos,after,guard⟩ k:=by
 refine⟨s,s.v,hk,lS _,λw hw=>?_⟩
 have vK:=ib hT ht hnT w
 have hag:=MR hT ht hnT w
 have hgw:∀j,j<ti.sh.length->ad w.heap b (o+j)=(l[j]?).map Ce.v:=λj hj=>by rw[hw (b,o+j) (hA j hj),hg j hj]
 rcases hsv with⟨h1,h2⟩|⟨h1,c,h2,h3⟩
 ·have hlc:=run_loadCells_list (P:=P) (w:=w) ⟨b,o,none⟩ (l.map Ce.v) (λj v hj=>by
   rw[tG,xA];have NB:j<ti.sh.length:=by
    rcases aF1 j ti.sh.length with h|h
    ·exact h
    ·rw[aGc bg]at hj;simp at hj
   rw[hgw j NB,<-aGb,hj])
  simp only[aGy]at hlc
  simp only[execOp,Instr.loadAt,hx,Instr.sureAddr,loadVar,Sem.run_bind,Sem.run_pure,hag,h1,Result.andThen_ok,vK,aIR]
  simp[<-hl,hlc,h2]
 ·subst h2
  have h0:=hgw 0 (by rw[<-hl];simp)
  simp at h0
  simp only[execOp,Instr.loadAt,hx,Instr.sureAddr,loadVar,Sem.run_bind,Sem.run_pure,hag,h1,Result.andThen_ok]
  simp[xA,h0,h3]
theorem HA(hT:uK P T)(hR:gW n fr a){t:TypeId}{x:Operand}{b o:Nat}(hx:a.eval x=.pointer (some ⟨b,o,none⟩))
 (hA:∀ti j,dP T t=some ti->j<ti.sh.length->(b,o+j)∈VI T fr (.load t x))(h:Pt T m t b o k):ms P T fr m a ⟨dst,.load t x,ty,pos,after,guard⟩ k:=by
 unfold Pt at h
 split at h
 ·rename_i kG sh OL ht
  obtain⟨l,hk,hl,hg⟩:=Px _ _ _ _ _ h
  exact j9 hT hR hx ht rfl (λj hj=>hA _ j ht hj) hl (λi hi=>by simpa using hg i hi) (s:=.agg l) rfl (Or.inl ⟨rfl,rfl⟩) hk
 ·rename_i s OL ht
  obtain⟨y,hy,hk⟩:=h
  exact j9 hT hR hx ht rfl (λj hj=>hA _ j ht hj) (l:=[s.mk y]) rfl (λi hi=>by
   have:i=0:=by simpa using hi
   subst this;exact hy) (s:=.c (s.mk y)) rfl (Or.inr ⟨rfl,_,rfl,rfl⟩) hk
 ·rename_i e s0 OL ht
  obtain⟨y,hy,hk⟩:=h
  exact j9 hT hR hx ht rfl (λj hj=>hA _ j ht hj) (l:=[.s y]) rfl (λi hi=>by
   have:i=0:=by simpa using hi
   subst this;exact hy) (s:=.c (.s y)) rfl (Or.inr ⟨rfl,_,rfl,rfl⟩) hk
 ·exact h.elim
theorem JH:∀{cs:List Ce}{len o:Nat}{l:List Ce},DK cs o len=some l->l.length=len/\∀i,i<len->cs[o+i]? =l[i]?
 |cs,0,o,l,h=>by simp[DK]at h;subst h;simp
 |cs,len+1,o,l,h=>by
  simp only[DK]at h;split at h
  ·rename_i c r hc hr;simp at h;subst h;obtain⟨h1,h2⟩:=JH hr;refine⟨by simp[h1],λi hi=>?_⟩;cases i with
   |zero=>rw[mQ]at hc;simpa using hc
   |succ i=>
    have:=h2 i ab;rw[show o+(i+1)=o+1+i by omega];simpa using this
  ·simp at h
theorem HB(hT:uK P T)(hR:gW n fr a){t:TypeId}{x:Operand}{b o e:Nat}{cs:List Ce}(hx:a.eval x=.pointer (some ⟨b,o,none⟩))
 (hA:∀ti j,dP T t=some ti->j<ti.sh.length->(b,o+j)∈VI T fr (.load t x))(hb:m[b]? =some (.cells (cs.map Ce.v).toArray e))(h:MS T t cs o k):
 ms P T fr m a ⟨dst,.load t x,ty,pos,after,guard⟩ k:=by
 have Vb:∀i,ad m b i=(cs[i]?).map Ce.v:=λi=>by simp[ad,hb]
 unfold MS at h
 split at h
 ·rename_i kG sh OL ht
  split at h
  ·rename_i l hl
   obtain⟨h1,h2⟩:=JH hl
   exact j9 hT hR hx ht rfl (λj hj=>hA _ j ht hj) h1 (λi hi=>by rw[Vb,h2 i hi]) (s:=.agg l) rfl (Or.inl ⟨rfl,rfl⟩) h
  ·exact h.elim
 ·rename_i s OL ht
  split at h
  ·rename_i c hc
   rw[mQ]at hc
   exact j9 hT hR hx ht rfl (λj hj=>hA _ j ht hj) (l:=[c]) rfl (λi hi=>by
    have:i=0:=by simpa using hi
    subst this;rw[Vb];simp[hc]) (s:=.c c) rfl (Or.inr ⟨rfl,_,rfl,rfl⟩) h
  ·exact h.elim
 ·rename_i e s0 OL ht
  split at h
  ·rename_i c hc
   rw[mQ]at hc
   exact j9 hT hR hx ht rfl (λj hj=>hA _ j ht hj) (l:=[c]) rfl (λi hi=>by
    have:i=0:=by simpa using hi
    subst this;rw[Vb];simp[hc]) (s:=.c c) rfl (Or.inr ⟨rfl,_,rfl,rfl⟩) h
  ·exact h.elim
 ·rename_i k0 e0 s0 OL ht
  split at h
  ·rename_i c hc
   rw[mQ]at hc
   exact j9 hT hR hx ht rfl (λj hj=>hA _ j ht hj) (l:=[c]) rfl (λi hi=>by
    have:i=0:=by simpa using hi
    subst this;rw[Vb];simp[hc]) (s:=.c c) rfl (Or.inr ⟨rfl,_,rfl,rfl⟩) h
  ·exact h.elim
 ·exact h.elim
theorem Rn(hT:uK P T)(hR:gW n fr a)(hB:Bx n fr m){t:TypeId}{x:Operand}(h:rd T fr m k (.load t x)):ms P T fr m a ⟨dst,.load t x,ty,pos,after,guard⟩ k:=by
 simp only[rd]at h;split at h
 ·rename_i b o hx;exact HA hT hR (hR.eq hx rfl) (λti j ht hj=>by simp only[VI,hx,ht];exact List.mem_map.2 ⟨j,List.mem_range.2 hj,rfl⟩) h
 ·rename_i q b o hx;have hA:∀ti j,dP T t=some ti->j<ti.sh.length->(b,o+j)∈VI T fr (.load t x):=λti j ht hj=>by simp only[VI,hx,ht];exact List.mem_map.2 ⟨j,List.mem_range.2 hj,rfl⟩
  split at h
  ·rename_i b' e cs hf;obtain⟨rfl,h⟩:=h;exact HB hT hR (hR.eq hx rfl) hA (hB.ao q _ e cs (Or.inl hf)) h
  ·rename_i b' e cs hf;obtain⟨rfl,h⟩:=h;exact HB hT hR (hR.eq hx rfl) hA (hB.ao q _ e cs (Or.inr hf)) h
  ·exact HA hT hR (hR.eq hx rfl) hA h
 ·exact h.elim
end
end Go.Vc
end
section
namespace Go.Vc
variable{P:Program}{T:TT}
section
variable{n:Nat}{fr:Fr}{a:Act}{m:ah}{k:SV->Prop}{dst:Option Tmp}{ty:TypeId}{pos:String}{after:Array Edge}{guard:Option (Nat×Bool)}
theorem LZ(hR:gW n fr a){x:Operand}{i:Nat}(h:rd T fr m k (.extract x i)):ms P T fr m a ⟨dst,.extract x i,ty,pos,after,guard⟩ k:=by
 simp only[rd]at h;split at h
 ·rename_i l hx;split at h
  ·rename_i y hy;refine⟨_,_,h,lS _,λw _=>?_⟩;rw[mQ]at hy;rw[AV.aot];have:a.eval x=.tuple (l.map AV.v).toArray:=hR.eq hx rfl;simp[execOp,Instr.extract,this,hy]
  ·exact h.elim
 ·exact h.elim
theorem MU(hR:gW n fr a){x:Option Operand}{d:Int}{k:Int->Prop}(h:LV fr x d k):
 (x=none/\k d)\/∃y i,x=some y/\a.eval y=.int .i64 i/\k i:=by
 unfold LV at h
 split at h
 ·exact Or.inl ⟨rfl,h⟩
 ·rename_i y
  split at h
  ·rename_i i hi
   exact Or.inr ⟨y,i,rfl,hR.eq hi rfl,h⟩
  ·exact h.elim
theorem mS(k:IntKind)(i:Int)(y:Nat)(c:BoundsCode)(h0:0<=i)(h1:i<=y)(w:World):(Instr.sliceBound (.int k i) y c).run P w=.ok i.toNat w:=by
 simp[Instr.sliceBound,asIntOf,h0,h1]
theorem aiy(b o l c lo hi size:Nat):(Sl.cut (.mk b o l c) lo hi size).v=.slice (if c=lo then some ⟨b,o,none⟩else(some (⟨b,o,none⟩:Addr)).map (·.add (lo*size))) (hi -lo) (c -lo):=by
 show Value.slice _ _ _=_;simp only[tG,aHe];split<;>rfl
theorem Py(hT:uK P T)(hR:gW n fr a){t:TypeId}{x:Operand}{lo hi:Option Operand}(h:rd T fr m k (.slice t x lo hi none)):ms P T fr m a ⟨dst,.slice t x lo hi none,ty,pos,after,guard⟩ k:=by
 simp only[rd]at h;split at h
 ·rename_i s hx;unfold Rj at h;split at h
  ·rename_i e sh OL ht;split at h
   ·rename_i te he;cases hc:te.sq
    ·rw[hc]at h;have hu:=(gX (hT.zK ht)).1;have vK:=λw=>ib hT he hc w;have key:∀(l hh:Int),0<=l->l<=hh->hh<=(s.cap:Int)->
      (∀w:World,(Instr.sliceBounds true s.len s.cap (lo.map a.eval) (hi.map a.eval) none).run P w=.ok (l.toNat,hh.toNat,s.cap) w)->
      ∀w:World,(execOp a.eval ⟨dst,.slice t x lo hi none,ty,pos,after,guard⟩).run P w=.ok (.value (Ce.s (s.cut l.toNat hh.toNat te.sh.length)).v) w:=by
      intro l hh h0 h1 h2 hb w
      cases s with
      |nil=>
       simp only[Sl.cap,Sl.len]at hb h2
       have:hh=0:=ab
       have:l=0:=ab
       subst this;subst hh
       simp[execOp,Instr.sliceAt,hR.eq hx rfl,SV.v,Ce.v,Sl.v,run_underlying hu,Instr.slice,hb,vK,Sl.cut]
      |BV b0 o0 sp=>
       simp only[Sl.cap,Sl.len]at hb h2
       have:hh=0:=ab
       have:l=0:=ab
       subst this;subst hh
       simp[execOp,Instr.sliceAt,hR.eq hx rfl,SV.v,Ce.v,Sl.v,run_underlying hu,Instr.slice,hb,vK,Sl.cut]
      |mk b o len cap=>
       simp only[Sl.cap,Sl.len]at hb
       have e:(Ce.s ((Sl.mk b o len cap).cut l.toNat hh.toNat te.sh.length)).v=_:=aiy b o len cap l.toNat hh.toNat te.sh.length
       rw[e]
       have:a.eval x=.slice (some ⟨b,o,none⟩) len cap:=hR.eq hx rfl
       simp[execOp,Instr.sliceAt,this,run_underlying hu,Instr.slice,hb,vK]
     simp only[aHd]at h;rcases MU hR h with⟨rfl,h'⟩|⟨y,l,rfl,hl,h'⟩<;>rcases MU hR h' with⟨rfl,h0,h1,h2,hk⟩|⟨z,hh,rfl,hz,h0,h1,h2,hk⟩
     ·exact⟨_,_,hk,lS _,λw _=>key _ _ h0 h1 h2 (λw=>by simp[Instr.sliceBounds]) w⟩
     ·exact⟨_,_,hk,lS _,λw _=>key _ _ h0 h1 h2 (λw=>by simp[Instr.sliceBounds,hz,mS _ _ _ _ (by omega:0<=hh) h2]) w⟩
     ·exact⟨_,_,hk,lS _,λw _=>key _ _ h0 h1 h2 (λw=>by simp[Instr.sliceBounds,hl,mS _ _ _ _ h0 h1]) w⟩
     ·exact⟨_,_,hk,lS _,λw _=>key _ _ h0 h1 h2 (λw=>by
       have e:l<=(hh.toNat:Int):=ab;simp[Instr.sliceBounds,hz,hl,mS _ _ _ _ (by omega:0<=hh) h2,mS _ _ _ _ h0 e]) w⟩
    ·rw[hc]at h;exact h.elim
   ·exact h.elim
  ·exact h.elim
 ·exact h.elim
theorem JI(hT:uK P T)(hR:gW n fr a)(kG:List (Nat×Nat))(jQ:Nat->Option (Nat×Nat))
 (hp:∀i off t ti,FL kG i=some (off,t)->dP T t=some ti->ti.sq=false->jQ i=some (off,ti.sh.length)):
 ∀(parts:List (Nat×Operand))(cs:List Ce)(k:List Ce->Prop),DI T fr kG cs parts k->
  ∃l,k l/\Instr.fill jQ (cs.map Ce.v).toArray (parts.map λp=>(p.1,a.eval p.2))=some (l.map Ce.v).toArray
 |[],cs,k,h=>⟨cs,h,rfl⟩
 |(i,x)::r,cs,k,h=>by
  simp only[DI]at h;split at h
  ·rename_i off t new OM zw;split at h
   ·rename_i ti Si;cases hc:(!ti.sq&&Nat.beq new.length ti.sh.length&&Nat.ble (off+new.length) cs.length)
    ·rw[hc]at h;exact h.elim
    ·rw[hc]at h;simp only[aF6,aGQ]at hc;obtain⟨⟨hc1,ME⟩,Sj⟩:=hc;have ME:=aF2 ME;have Sj:=aGZ Sj;obtain⟨l,hk,hl⟩:=JI hT hR kG jQ hp r (jy cs off new) k h;refine⟨l,hk,?_⟩;obtain⟨TW,Ds⟩:=mR zw;have hx:a.eval x=(ev fr x).v:=hR.eq rfl TW;simp only[aGf,Instr.fill,hp i off t ti OM Si hc1,hx,Ds,aHz,aGy,ME];rw[aFS bg,<-hl];congr 1;apply aHt;intro j;have e1:=MT (new.map Ce.v) 0 off (cs.map Ce.v).toArray j;rw[<-aIg,aIe];have e2:=zN cs off new j Sj;rw[show((List.map Ce.v (jy cs off new)).toArray)[j]? =((jy cs off new)[j]?).map Ce.v by simp,e2];rw[e1];simp;split<;>split<;>first|rfl|(exfalso;omega)|(congr 1;omega)
   ·exact h.elim
  ·exact h.elim
def szT(T:TT)(t:Nat):Nat:=match dP T t with|some ti=>ti.sh.length|none=>0
theorem HD(hT:uK P T)(w:World):∀(fs:List Field),(∀f∈fs,∃ti,dP T f.type=some ti/\ti.sq=false)->
 (fs.mapM (λf=>do pure (f.offset,<-sizeOf f.type):Field->Sem (Nat×Nat))).run P w=.ok (fs.map λf=>(f.offset,szT T f.type)) w
 |[],_=>az
 |f::fs,h=>by
  obtain⟨ti,Si,hn⟩:=h f az;have ih:=HD hT w fs (λg hg=>h g (by simp[hg]));simp only[aIb,Sem.run_bind,ib hT Si hn,Result.andThen_ok,Sem.run_pure]at ih⊢;rw[ih];simp[szT,Si]
theorem HG:∀{kG:List (Nat×Nat)},ta T kG=true->∀p∈kG,∃ti,dP T p.2=some ti/\ti.sq=false
 |[],_,_,h=>by simp at h
 |(o,t)::r,h,p,hp=>by
  simp only[ta,aF6]at h;rcases List.mem_cons.1 hp with rfl|hp
  ·have h1:=h.1;split at h1
   ·rename_i ti Si;exact⟨ti,Si,by simpa using h1⟩
   ·simp at h1
  ·exact HG h.2 p hp
theorem Pz(hT:uK P T)(hR:gW n fr a){t:TypeId}{parts:Array (Nat×Operand)}(h:rd T fr m k (.build t parts)):ms P T fr m a ⟨dst,.build t parts,ty,pos,after,guard⟩ k:=by
 simp only[rd]at h;split at h
 ·rename_i kG sh OL ht;cases rI:ta T kG
  ·rw[rI]at h;exact h.elim
  rw[rI]at h;obtain⟨⟨fs,Dr,Qs⟩,_⟩:=lR (hT.zK ht);obtain⟨z,hz,VL,Vd⟩:=tF hT ht rfl;have gZ:∀f∈fs.toList,∃ti,dP T f.type=some ti/\ti.sq=false:=λf hf=>
   HG rI (f.offset,f.type) (by rw[<-Qs];exact List.mem_map.2 ⟨f,hf,rfl⟩)
  have aaH:∀w:World,(fs.mapM (λf=>do pure (f.offset,<-sizeOf f.type):Field->Sem (Nat×Nat))).run P w=.ok (fs.toList.map λf=>(f.offset,szT T f.type)).toArray w:=by
   intro w;rw[aHR,Sem.run_map,HD hT w fs.toList gZ];rfl
  obtain⟨l,hk,hl⟩:=JI hT hR kG (λi=>((fs.toList.map λf=>(f.offset,szT T f.type)).toArray)[i]?) (λi off t ti ho Si hn=>by
   rw[mQ,<-Qs,aGb]at ho;obtain⟨fl,gL,he⟩:=Option.map_eq_some_iff.1 ho;simp only[aHX]at he;obtain⟨rfl,rfl⟩:=he;simp only[aG0,aGb,gL,aHe,szT,Si]) _ _ _ h
  refine⟨_,_,hk,lS _,λw _=>?_⟩;have kJ:z.cells=((sh.map Sh.zero).map Ce.v).toArray:=by
   apply Array.toList_inj.1;simp[hz]
  have hpp:(parts.map λp=>(p.1,a.eval p.2)).toList=parts.toList.map λp=>(p.1,a.eval p.2):=az;simp only[execOp,Instr.build,Sem.run_bind,VL,Result.andThen_ok,run_underlying Dr,aaH,kJ,hpp,hl];simp[SV.v]
 ·exact h.elim
theorem zO(hR:gW n fr a):∀{xs:List Operand},xs.all (λx=>(ev fr x).fX)=true->xs.map a.eval=xs.map λx=>(ev fr x).v
 |[],_=>rfl
 |x::xs,h=>by
  simp only[aHZ,aF6]at h;simp only[aGf,hR.eq rfl h.1,zO hR h.2]
theorem Ma(hT:uK P T)(hR:gW n fr a){bi:Builtin}{args:Array Operand}{ts:Array TypeId}(h:rd T fr m k (.call ⟨.builtin bi,args,ts⟩)):
 ms P T fr m a ⟨dst,.call ⟨.builtin bi,args,ts⟩,ty,pos,after,guard⟩ k:=by
 simp only[rd]at h
 unfold Wc at h
 split at h
 ·rename_i t x hts hxs
  split at h
  ·rename_i e sh OL s ht hx
   refine⟨_,_,h,lS _,λw _=>?_⟩
   have hu:=(gX (hT.zK ht)).1
   have e1:ts=#[t]:=Array.toList_inj.1 (by simpa using hts)
   have e2:args=#[x]:=Array.toList_inj.1 (by simpa using hxs)
   subst e1;subst e2
   have hv:a.eval x=s.v:=hR.eq hx rfl
   cases s<;>simp[execOp,resolve,invoke,builtin,Builtin.len_,run_underlying hu,hv,Sl.v,goInt,SV.v,Ce.v,Sl.len]
  ·exact h.elim
 ·rename_i x y hxs
  split at h
  ·rename_i p q hx hy
   refine⟨_,_,h,lS _,λw _=>?_⟩
   have e2:args=#[x,y]:=Array.toList_inj.1 (by simpa using hxs)
   subst e2
   simp[execOp,resolve,invoke,builtin,Builtin.max_,Builtin.max2,hR.eq hx rfl,hR.eq hy rfl,SV.v,Ce.v]
  ·exact h.elim
 ·rename_i x y hxs
  split at h
  ·rename_i p q hx hy
   refine⟨_,_,h,lS _,λw _=>?_⟩
   have e2:args=#[x,y]:=Array.toList_inj.1 (by simpa using hxs)
   subst e2
   simp[execOp,resolve,invoke,builtin,Builtin.min_,Builtin.min2,hR.eq hx rfl,hR.eq hy rfl,SV.v,Ce.v]
  ·exact h.elim
 ·exact h.elim
theorem JJ(hT:uK P T)(hR:gW n fr a)(hB:Bx n fr m)(o:Oper)(h:rd T fr m k o.op):ms P T fr m a o k:=by
 obtain⟨dst,op,ty,pos,after,guard⟩:=o;cases op with
 |move x=>exact Wd hR h
 |assign x=>exact UB hR h
 |pick c x y=>exact Rk hR h
 |nilCheck x=>exact JG hR h
 |binOp op t x y yt=>exact Pv hT hR h
 |unOp op t x=>exact Rm hR h
 |convert s t x=>exact LY hT hR h
 |fieldAddr t x f=>exact Ip hT hR h
 |field t x f=>exact Pw hT hR h
 |indexAddr t x y=>exact Iq hT hR h
 |load t x=>exact Rn hT hR hB h
 |extract x i=>exact LZ hR h
 |slice t x lo hi mx=>cases mx with
  |none=>exact Py hT hR h
  |some y=>exact h.elim
 |build t parts=>exact Pz hT hR h
 |call c=>
  obtain⟨callee,args,ts⟩:=c;cases callee with
  |builtin bi=>exact Ma hT hR h
  |value f=>exact h.elim
  |invoke r mm=>exact h.elim
 |_=>exact h.elim
end
end Go.Vc
end
section
namespace Go.Vc
def ag(m:ah)(b o:Nat):List Ce->ah
 |[]=>m
 |c::r=>ag (xz m b o c.v) b (o+1) r
def dW(m:ah)(b o n:Nat):Prop:=∀j,j<n->(ad m b (o+j)).isSome=true/\Rg m b (o+j)=false
def eK(m:ah)(b o:Nat)(l:List Ce):Prop:=∀(i:Nat)(c:Ce),l[i]? =some c->ad m b (o+i)=some c.v
def kL(zs:List Ce)(n:Nat):List Ce:=(List.replicate n zs).flatten
def aU(l:List Ce):Array Value:=(l.map Ce.v).toArray
theorem Ro(m:ah)(b o:Nat)(v:Value):(xz m b o v).size=m.size:=by simp[xz]
theorem We(m:ah)(b o:Nat)(v:Value){j:Nat}(h:j≠b):(xz m b o v)[j]? =m[j]? :=by
 simp only[xz,aHC];rw[aFS (λe=>h e.symm)]
theorem aq:∀(l:List Ce)(m:ah)(b o:Nat),(ag m b o l).size=m.size
 |[],_,_,_=>rfl
 |c::r,m,b,o=>by simp only[ag];rw[aq r,Ro]
theorem aP:∀(l:List Ce)(m:ah)(b o:Nat){j:Nat},j≠b->(ag m b o l)[j]? =m[j]?
 |[],_,_,_,_,_=>rfl
 |c::r,m,b,o,j,h=>by simp only[ag];rw[aP r _ _ _ h,We m b o _ h]
theorem tH{m:ah}{b o:Nat}{v:Value}(h:ad m b o=some v):b<m.size:=by
 rcases aF1 b m.size with h'|h'
 ·exact h'
 ·simp[ad,aH0 h']at h
theorem aA{m m':ah}{b:Nat}(h:m'[b]? =m[b]?)(o:Nat):ad m' b o=ad m b o:=by simp only[ad,h]
def bK(m:ah)(b:Nat)(e:Nat)(l:List Ce):Prop:=m[b]? =some (.cells (aU l) e)
theorem Wf(l:List Ce)(i:Nat):(aU l)[i]? =(l[i]?).map Ce.v:=by simp[aU]
theorem bK.bH{m:ah}{b e:Nat}{l:List Ce}(h:bK m b e l)(o:Nat):ad m b o=(l[o]?).map Ce.v:=by
 have h':m[b]? =some (.cells (aU l) e (0,0)):=h;simp only[ad,h',Wf]
theorem bK.iu{m:ah}{b e:Nat}{l:List Ce}(h:bK m b e l):eK m b 0 l:=λi c hc=>by rw[h.bH,aGa,hc];rfl
theorem bK.lt{m:ah}{b e:Nat}{l:List Ce}(h:bK m b e l):b<m.size:=(Array.getElem?_eq_some_iff.1 h).1
theorem bK.Rg{m:ah}{b e:Nat}{l:List Ce}(h:bK m b e l)(o:Nat):Rg m b o=false:=by
 have h':m[b]? =some (.cells (aU l) e (0,0)):=h;simp[Vc.Rg,h']
theorem bK.dW{m:ah}{b e:Nat}{l:List Ce}(h:bK m b e l){o n:Nat}(hn:o+n<=l.length):dW m b o n:=λj hj=>by
 refine⟨?_,h.Rg _⟩;rw[h.bH];simp;omega
theorem bK.push(m:ah)(l:List Ce)(e:Nat):bK (m.push (.cells (aU l) e)) m.size e l:=by simp[bK]
theorem bK.congr{m m':ah}{b e:Nat}{l:List Ce}(hb:bK m b e l)(h:m'[b]? =m[b]?):bK m' b e l:=by
 unfold bK at*;rw[h];exact hb
theorem bK.xz{m:ah}{b e:Nat}{l:List Ce}(h:bK m b e l)(o:Nat)(c:Ce):bK (xz m b o c.v) b e (l.set o c):=by
 have h':m[b]? =some (.cells (aU l) e (0,0)):=h;have cA:=h.lt;simp only[bK,Vc.xz,aHC,aIR,h',aHe];congr 2;apply aHt;intro i;simp only[aU,Array.getElem?_setIfInBounds,aG0,aGb,aGR,aHz,aGy];by_cases e:o=i
 ·subst e;by_cases hl:o<l.length
  ·simp[hl]
  ·simp[hl]
 ·simp[e]
def fP(l:List Ce)(o:Nat):List Ce->List Ce
 |[]=>l
 |c::r=>fP (l.set o c) (o+1) r
theorem mu:∀(r l:List Ce)(o:Nat),(fP l o r).length=l.length
 |[],_,_=>rfl
 |c::r,l,o=>by simp only[fP];rw[mu r];simp
theorem tI:∀(r l:List Ce)(o i:Nat),(fP l o r)[i]? =if o<=i/\i<o+r.length/\i<l.length then r[i -o]? else l[i]?
 |[],l,o,i=>by simp[fP];intro h;omega
 |c::r,l,o,i=>by
  simp only[fP];rw[tI r,aGR];simp only[aGO,aF5];by_cases h1:o=i
  ·subst h1;by_cases h2:o<l.length
   ·simp[h2];try omega
   ·simp[h2];try omega
  ·by_cases h2:o<=i/\i<o+(r.length+1)/\i<l.length
   ·rw[aFW h2,aFW ab,show i -o=(i -(o+1))+1 by omega,aGA]
   ·rw[aFS h2,aFS ab];simp[h1]
theorem bK.ag{m:ah}{b e:Nat}:∀{r l:List Ce}{m:ah}{o:Nat},bK m b e l->bK (ag m b o r) b e (fP l o r)
 |[],_,_,_,h=>h
 |c::r,l,m,o,h=>by
  simp only[Vc.ag,fP];exact bK.ag (m:=m) (h.xz o c)
def tc(t:Nat):List Nat->Bool
 |[]=>false
 |u::r=>Nat.beq u t||tc t r
theorem FO{t:Nat}:∀{M:List Nat},tc t M=true->t∈M
 |[],h=>by simp[tc]at h
 |u::r,h=>by
  simp only[tc,aGe]at h;rcases h with h|h
  ·rw[aF2 h];exact aF3
  ·exact aFT _ (FO h)
def LJ(n:Nat):Fr->List Nat->List Nat
 |[],_=>[]
 |(q,x)::r,seen=>bif Nat.ble n q&&!tc q seen then
  match x with
  | .box b _ _=>b::LJ n r (q::seen)
  | .xB b _ _=>b::LJ n r (q::seen)
  |_=>LJ n r (q::seen)
  else LJ n r seen
def da(l:List Nat)(m m':ah):Prop:=∀b∈l,m'[b]? =m[b]?
def xD(l:List Nat)(m m':ah)(k:Prop):Prop:=
 match l with
 |[]=>k
 |_=>da l m m'/\k
theorem jG{l:List Nat}{m m':ah}{k:Prop}(h:xD l m m' k):da l m m'/\k:=by
 unfold xD at h;split at h
 ·exact⟨(λb hb=>by cases hb),h⟩
 ·exact h
theorem DL{n:Nat}{q b e:Nat}{l:List Ce}(hq:n<=q):∀{fr:Fr}{seen:List Nat},q∉seen->jo fr q b e l->b∈LJ n fr seen
 |[],seen,_,h=>by rcases h with h|h<;>simp[eJ]at h
 |(u,x)::r,seen,hs,h=>by
  simp only[LJ];cases hu:Nat.beq u q
  ·have cx:u≠q:=λe=>by subst e;simp at hu
   have h':jo r q b e l:=by
    unfold jo at h⊢;simpa only[eJ,hu,aHd]using h
   have uH:q∉u::seen:=by
    simp only[aF0,aHO];exact⟨λe=>cx e.symm,hs⟩
   cases(Nat.ble n u&&!tc u seen)
   ·exact DL hq hs h'
   ·simp only[aG4];split
    ·exact aFT _ (DL hq uH h')
    ·exact aFT _ (DL hq uH h')
    ·exact DL hq uH h'
  ·have:=aF2 hu;subst this;have hm:tc u seen=false:=by
    cases hmm:tc u seen
    ·rfl
    ·exact absurd (FO hmm) hs
   have hb:Nat.ble n u=true:=aH1 hq;simp only[hm,hb,aHS,Bool.and_self,aG4];unfold jo at h;simp only[eJ,hu,aG4]at h;rcases h with h|h<;>rw[h]<;>exact aF3
theorem Bx.fC{n:Nat}{fr:Fr}{m:ah}(h:Bx n fr m){q:Nat}{x:SV}(hx:∀b e l,x≠.box b e l/\x≠.xB b e l):Bx n ((q,x)::fr) m:=by
 have key:∀{u b e l},jo ((q,x)::fr) u b e l->jo fr u b e l:=by
  intro u b e l hb;unfold jo at hb⊢;simp only[eJ]at hb;cases hu:Nat.beq q u
  ·rw[hu]at hb;exact hb
  ·rw[hu]at hb;rcases hb with hb|hb
   ·exact absurd hb (hx b e l).1
   ·exact absurd hb (hx b e l).2
 exact⟨λq b e l h'=>h.ao q b e l (key h'),λq q' b e l b' e' l' cx h1 h2=>h.NZ q q' b e l b' e' l' cx (key h1) (key h2),λq b e l h'=>h.key q b e l (key h')⟩
theorem SV.aiA(x:SV)(b e:Nat)(l:List Ce):x.nb≠.box b e l/\x.nb≠.xB b e l:=by
 cases x<;>exact⟨by simp[SV.nb],by simp[SV.nb]⟩
theorem Bx.put{n:Nat}{fr:Fr}{m:ah}(h:Bx n fr m)(d:Option Nat)(x:SV):Bx n (rL fr d x) m:=by
 cases d with
 |none=>exact h
 |some d=>exact h.fC (SV.aiA x)
theorem Bx.cg{n:Nat}{fr:Fr}{m m':ah}(h:Bx n fr m)(hs:da (LJ n fr []) m m'):Bx n fr m':=
 ⟨λq b e l hb=>by rw[hs b (DL (h.key q b e l hb) az hb)];exact h.ao q b e l hb,h.NZ,h.key⟩
theorem Bx.push{n:Nat}{fr:Fr}{m:ah}(h:Bx n fr m)(o:Obj):Bx n fr (m.push o):=
 ⟨λq b e l hb=>by
  have h1:=h.ao q b e l hb;have cA:=(Array.getElem?_eq_some_iff.1 h1).1;rw[aHq,aFS ab];exact h1,h.NZ,h.key⟩
theorem Bx.new{n:Nat}{fr:Fr}{m:ah}(h:Bx n fr m){q:Nat}(hq:n<=q)(t:Nat)(l:List Ce):Bx n ((q,.box m.size t l)::fr) (m.push (.cells (aU l) t)):=by
 have hp:=h.push (.cells (aU l) t);have lt:∀{u b e l},jo fr u b e l->b<m.size:=λhb=>(Array.getElem?_eq_some_iff.1 (h.ao _ _ _ _ hb)).1;have key:∀{u b e l'},jo ((q,.box m.size t l)::fr) u b e l'->(u=q/\b=m.size/\e=t/\l'=l)\/(u≠q/\jo fr u b e l'):=by
  intro u b e l' hb;unfold jo at hb⊢;simp only[eJ]at hb;cases hu:Nat.beq q u
  ·rw[hu]at hb;exact Or.inr ⟨λe=>by subst e;simp at hu,hb⟩
  ·rw[hu]at hb;have:=aF2 hu;subst this;rcases hb with hb|hb
   ·simp at hb;exact Or.inl ⟨rfl,hb.1.symm,hb.2.1.symm,hb.2.2.symm⟩
   ·simp at hb
 refine⟨λu b e l' hb=>?_,λu u' b e l1 b' e' l2 cx h1 h2=>?_,λu b e l' hb=>?_⟩
 ·rcases key hb with⟨rfl,rfl,rfl,rfl⟩|⟨_,hb⟩
  ·simp[aU]
  ·exact hp.ao u b e l' hb
 ·rcases key h1 with⟨rfl,rfl,rfl,rfl⟩|⟨hu,h1'⟩
  ·rcases key h2 with⟨rfl,rfl,rfl,rfl⟩|⟨XA,Ve⟩
   ·exact absurd rfl cx
   ·have:=lt Ve;omega
  ·rcases key h2 with⟨rfl,rfl,rfl,rfl⟩|⟨XA,Ve⟩
   ·have:=lt h1';omega
   ·exact h.NZ u u' b e l1 b' e' l2 cx h1' Ve
 ·rcases key hb with⟨rfl,rfl,rfl,rfl⟩|⟨_,hb⟩
  ·exact hq
  ·exact h.key u b e l' hb
theorem Bx.uG{n:Nat}{fr:Fr}{m:ah}(h:Bx n fr m){q b e:Nat}{cs:List Ce}(hq:eJ fr q=.box b e cs)(o:Nat)(l:List Ce):Bx n ((q,.box b e (fP cs o l))::fr) (ag m b o l):=by
 have hold:jo fr q b e cs:=Or.inl hq;have XB:bK m b e cs:=h.ao q b e cs hold;have key:∀{u b' e' l'},jo ((q,.box b e (fP cs o l))::fr) u b' e' l'->(u=q/\b'=b/\e'=e/\l'=fP cs o l)\/(u≠q/\jo fr u b' e' l'):=by
  intro u b' e' l' hb;unfold jo at hb⊢;simp only[eJ]at hb;cases hu:Nat.beq q u
  ·rw[hu]at hb;exact Or.inr ⟨λe=>by subst e;simp at hu,hb⟩
  ·rw[hu]at hb;have:=aF2 hu;subst this;rcases hb with hb|hb
   ·simp at hb;exact Or.inl ⟨rfl,hb.1.symm,hb.2.1.symm,hb.2.2.symm⟩
   ·simp at hb
 refine⟨λu b' e' l' hb=>?_,λu u' b1 e1 l1 b2 e2 l2 cx h1 h2=>?_,λu b' e' l' hb=>?_⟩
 ·rcases key hb with⟨rfl,rfl,rfl,rfl⟩|⟨hu,hb⟩
  ·exact bK.ag (m:=m) XB
  ·rw[aP l m b o (h.NZ u q b' e' l' b e cs hu hb hold)];exact h.ao u b' e' l' hb
 ·rcases key h1 with⟨rfl,rfl,rfl,rfl⟩|⟨hu,h1'⟩
  ·rcases key h2 with⟨rfl,rfl,rfl,rfl⟩|⟨XA,Ve⟩
   ·exact absurd rfl cx
   ·exactλe=>h.NZ u' u b2 e2 l2 _ _ _ XA Ve hold e.symm
  ·rcases key h2 with⟨rfl,rfl,rfl,rfl⟩|⟨XA,Ve⟩
   ·exact h.NZ u u' b1 e1 l1 _ _ _ hu h1' hold
   ·exact h.NZ u u' b1 e1 l1 b2 e2 l2 cx h1' Ve
 ·rcases key hb with⟨rfl,rfl,rfl,rfl⟩|⟨_,hb⟩
  ·exact h.key u b' e' cs hold
  ·exact h.key u b' e' l' hb
def DM(fr:Fr):List Ce->Option Fr
 |[]=>some fr
 | .bp q _ _::r=>match eJ fr q with
  | .xB _ _ _=>none
  |_=>DM ((q,.fC)::fr) r
 |_::r=>DM fr r
def AV.Z8:AV->List Ce
 | .c x=>[x]
 | .agg l=>l
def SV.Z8:SV->List Ce
 | .c x=>[x]
 | .agg l=>l
 | .tup l=>l.flatMap AV.Z8
 |_=>[]
def Wg(fr:Fr)(l:List SV):Option Fr:=DM fr (l.flatMap SV.Z8)
theorem nO{n:Nat}{a:Act}{m:ah}:∀{l:List Ce}{fr fr':Fr},DM fr l=some fr'->gW n fr a->Bx n fr m->gW n fr' a/\Bx n fr' m
 |[],fr,fr',h,hR,hB=>by simp[DM]at h;subst h;exact⟨hR,hB⟩
 |c::r,fr,fr',h,hR,hB=>by
  cases c with
  |bp q b o=>
   simp only[DM]at h;split at h
   ·simp at h
   ·exact nO h (hR.fC q) (hB.fC az)
  |_=>exact nO (l:=r) (by simpa[DM]using h) hR hB
end Go.Vc
end
section
namespace Go.Vc
variable{P:Program}{T:TT}
def N4(m:ah)(k:ah->Prop):Prop:=k m
def gA(m:ah)(e:Nat)(zs:List Ce)(bytes:Nat)(s x:Sl)(k:Sl->ah->Prop):Prop:=
 ∃new:List Ce,new.length=x.len*zs.length/\eK m x.ao x.off new/\
  (s.len+x.len<=s.cap->dW m s.ao (s.off+s.len*zs.length) new.length/\
   k (match s with| .nil=>.nil| .mk b o l c=>.mk b o (l+x.len) c| .BV b o sp=>.BV b o sp) (ag m s.ao (s.off+s.len*zs.length) new))/\
  (s.cap<s.len+x.len->(s.len+x.len)*bytes<=140737488355328/\∃old:List Ce,old.length=s.len*zs.length/\eK m s.ao s.off old/\
   ∀c,s.len+x.len<=c->k (.mk m.size 0 (s.len+x.len) c) (m.push (.cells (aU (old++new++kL zs (c -(s.len+x.len)))) e)))
def ae2(m:ah)(size:Nat)(s x:Sl)(k:SV->ah->Prop):Prop:=
 ∃new:List Ce,new.length=Nat.min x.len s.len*size/\eK m x.ao x.off new/\dW m s.ao s.off new.length/\
  N4 (ag m s.ao s.off new) λm'=>k (.c (.i (Nat.min x.len s.len:Nat))) m'
def Zx:List Sh->(List Ce->Prop)->Prop
 |[],k=>k []
 |s::r,k=>∃x:s.ty,Zx r λl=>k (s.mk x::l)
def UC(T:TT):List Nat->(List AV->Prop)->Prop
 |[],k=>k []
 |t::r,k=>match dP T t with
  |some ⟨.struct _,sh,_⟩=>Zx sh λl=>UC T r λvs=>k (.agg l::vs)
  |some ⟨.cell,[s],_⟩=>∃x:s.ty,UC T r λvs=>k (.c (s.mk x)::vs)
  |some ⟨.slice _,[_],_⟩=>∃x:Sl,UC T r λvs=>k (.c (.s x)::vs)
  |_=>False
def PA(T:TT)(t:Nat)(v:Value)(k:SV->Prop):Prop:=
 match dP T t with
 |some ⟨.tuple [],_,_⟩=>k .fC
 |some ⟨.tuple ts,_,_⟩=>UC T ts λl=>v=.tuple (l.map AV.v).toArray/\k (.tup l)
 |some ⟨.struct _,sh,_⟩=>Zx sh λl=>v=.agg (l.map Ce.v).toArray/\k (.agg l)
 |some ⟨.cell,[s],_⟩=>∃x:s.ty,v=(s.mk x).v/\k (.c (s.mk x))
 |some ⟨.slice _,[_],_⟩=>∃x:Sl,v=x.v/\k (.c (.s x))
 |_=>False
def Wh(P:Program)(T:TT)(G:List Nat)(n:Nat)(fr:Fr)(m:ah)(ty:Nat)(f:Operand)(args:List Operand)(k:Fr->SV->ah->Prop):Prop:=
 match Wg fr (args.map (ev fr))with
 |none=>False
 |some fr'=>match ev fr f with
  | .c (.fn (.func g) first captured)=>bif G.elem g&&args.all (λx=>(ev fr x).fX)then
   aD P g (first.toList++(args.map λx=>(ev fr x).v)++captured.toList) m λv m'=>xD (LJ n fr' []) m m' (PA T ty v λx=>k fr' x m')
   else False
  | .c (.fv q)=>bif args.all (λx=>(ev fr x).fX)then
   ∃g,q.1=.func g/\G.elem g=true/\aD P g (q.2.1.toList++(args.map λx=>(ev fr x).v)++q.2.2.toList) m λv m'=>xD (LJ n fr' []) m m' (PA T ty v λx=>k fr' x m')
   else False
  |_=>False
def Wj(m:ah)(b:Nat)(l:List (Int×Int)):Prop:=
 ∃es clock,m[b]? =some (.map es clock)/\es.toList.map (λe=>(e.key,e.val))=l.map λp=>(Value.int .i64 p.1,Value.int .i64 p.2)
def N6(l:List (Int×Int))(k:Int):Int:=
 match l with
 |[]=>0
 |(j,v)::r=>if k=j then v else N6 r k
def Rp(l:List (Int×Int))(k v:Int):List (Int×Int):=
 match l with
 |[]=>[(k,v)]
 |(j,u)::r=>if k=j then(j,v)::r else(j,u)::Rp r k v
def uN(T:TT)(fr:Fr)(size:Nat):List Ce->List (Nat×Operand)->(List Ce->Prop)->Prop
 |cs,[],k=>k cs
 |cs,(i,x)::r,k=>
  match(ev fr x).cells with
  |some new=>bif Nat.beq new.length size&&Nat.ble (i*size+new.length) cs.length then uN T fr size (jy cs (i*size) new) r k else False
  |none=>False
def UD(n:Nat)(fr:Fr)(d:Option Nat)(m:ah)(t:Nat)(l:List Ce)(k:Fr->SV->ah->Prop):Prop:=
 match d with
 |some dd=>match eJ fr (n+dd)with
  | .xB _ _ _=>False
  |_=>N4 (m.push (.cells (aU l) t)) λm'=>k ((n+dd,.box m.size t l)::fr) (.c (.bp (n+dd) m.size 0)) m'
 |none=>N4 (m.push (.cells (aU l) t)) λm'=>k fr (.c (.p m.size 0)) m'
def N7(n:Nat)(fr:Fr)(m:ah)(x:SV)(l:List Ce)(k:Fr->SV->ah->Prop):Prop:=
 match x with
 | .c (.p b o)=>dW m b o l.length/\N4 (ag m b o l) λm'=>xD (LJ n fr []) m m' (k fr .un m')
 | .c (.bp q b o)=>match eJ fr q with
  | .box b' e cs=>bif Nat.ble (o+l.length) cs.length then NY b' b (N4 (ag m b o l) λm'=>k ((q,.box b' e (fP cs o l))::fr) .un m')else False
  | .xB _ _ _=>False
  |_=>dW m b o l.length/\N4 (ag m b o l) λm'=>xD (LJ n fr []) m m' (k fr .un m')
 |_=>False
def wr(P:Program)(T:TT)(G:List Nat)(n:Nat)(fr:Fr)(m:ah)(d:Option Nat)(ty:Nat)(k:Fr->SV->ah->Prop):Op->Prop
 | .alloc t=>match dP T t with
  |some ti=>bif ti.sq then False else UD n fr d m t (ti.sh.map Sh.zero) k
  |none=>False
 | .box t x=>match(ev fr x).cells with
  |some l=>match DM fr l with
   |some fr'=>UD n fr' d m t l k
   |none=>False
  |none=>False
 | .buildSlice t len parts=>match dP T t with
  |some ⟨.slice e,_,_⟩=>match dP T e with
   |some te=>bif te.sq||!(Nat.ble (len*te.sh.length) 16777216)then False else
    uN T fr te.sh.length (kL (te.sh.map Sh.zero) len) parts.toList λl=>match DM fr l with
     |some fr'=>N4 (m.push (.cells (aU l) e)) λm'=>k fr' (.c (.s (.mk m.size 0 len len))) m'
     |none=>False
   |none=>False
  |_=>False
 | .store t x y=>match(ev fr y).cells,dP T t with
  |some l,some ti=>bif ti.sq||!(Nat.beq l.length ti.sh.length)then False else match DM fr l with
   |some fr'=>N7 n fr' m (ev fr x) l k
   |none=>False
  |_,_=>False
 | .makeSlice t x y=>match dP T t,ev fr x,ev fr y with
  |some ⟨.slice e,_,_⟩,.c (.i l),.c (.i c)=>match dP T e with
   |some te=>bif te.sq then False else 0<=l/\l<=c/\(te.bytes:Int)*c<=281474976710656/\c<=9223372036854775807/\
    N4 (m.push (.cells (aU (kL (te.sh.map Sh.zero) c.toNat)) e)) λm'=>k fr (.c (.s (.mk m.size 0 l.toNat c.toNat))) m'
   |none=>False
  |_,_,_=>False
 | .makeFunc fn first captured=>bif first.toList.all (λx=>(ev fr x).fX)&&captured.toList.all (λx=>(ev fr x).fX)then
  match Wg fr (first.toList.map (ev fr)++captured.toList.map (ev fr))with
  |some fr'=>k fr' (.c (.fn fn (first.toList.map λx=>(ev fr x).v).toArray (captured.toList.map λx=>(ev fr x).v).toArray)) m
  |none=>False
  else False
 | .makeMap _ none=>N4 (m.push (.map #[] 0)) λm'=>k fr (.c (.mp m.size)) m'
 | .lookup t x y false=>match dP T t,ev fr x,ev fr y with
  |some ⟨.map kt et,_,_⟩,.c (.mp b),.c (.i n)=>match dP T kt,dP T et with
   |some ⟨.cell,[.I],_⟩,some ⟨.cell,[.I],_⟩=>∃l,Wj m b l/\k fr (.c (.i (N6 l n))) m
   |_,_=>False
  |_,_,_=>False
 | .mapUpdate t x y z=>match dP T t,ev fr x,ev fr y,ev fr z with
  |some ⟨.map kt _,_,_⟩,.c (.mp b),.c (.i n0),.c (.i v)=>match dP T kt with
   |some ⟨.cell,[.I],_⟩=>∃l,Wj m b l/\∀m',Wj m' b (Rp l n0 v)->m'.size=m.size->(∀j,j≠b->m'[j]? =m[j]?)->xD (LJ n fr []) m m' (k fr .un m')
   |_=>False
  |_,_,_,_=>False
 | .call ⟨.value f,args,_⟩=>Wh P T G n fr m ty f args.toList k
 | .call ⟨.builtin .append,args,ts⟩=>match args.toList,ts.toList with
  |[x,y],[t,u]=>match dP T t,dP T u,ev fr x,ev fr y with
   |some ⟨.slice e,_,_⟩,some ⟨.slice _,_,_⟩,.c (.s s),.c (.s z)=>match dP T e with
    |some te=>bif te.sq||Nat.beq te.bytes 0 then False else gA m e (te.sh.map Sh.zero) te.bytes s z λr m'=>xD (LJ n fr []) m m' (k fr (.c (.s r)) m')
    |none=>False
   |_,_,_,_=>False
  |_,_=>False
 | .call ⟨.builtin .copy,args,ts⟩=>match args.toList,ts.toList with
  |[x,y],t::_=>match dP T t,ev fr x,ev fr y with
   |some ⟨.slice e,_,_⟩,.c (.s s),.c (.s z)=>match dP T e with
    |some te=>bif te.sq then False else ae2 m te.sh.length s z λx m'=>xD (LJ n fr []) m m' (k fr x m')
    |none=>False
   |_,_,_=>False
  |_,_=>False
 |_=>False
def FQ(P:Program)(g:Nat):Bool:=
 match P.funcs[g]? with
 |some fn=>!(fn.name== "runtime.NumGoroutine")&&fn.body.isSome
 |none=>false
def Z9(P:Program)(G:List Nat):Prop:=G.all (FQ P)=true
theorem PB(zs:List Ce):∀(n i:Nat),i<n*zs.length->(kL zs n)[i]? =zs[i%zs.length]?
 |0,i,h=>by simp at h
 |n+1,i,h=>by
  have hz:0<zs.length:=by
   rcases aGT zs.length with e|e
   ·rw[e]at h;simp at h
   ·exact e
  have e:kL zs (n+1)=zs++kL zs n:=by simp[kL,aHg]
  rw[e,List.getElem?_append];split
  ·rename_i hi;rw[Nat.mod_eq_of_lt hi]
  ·rename_i hi;rw[PB zs n (i -zs.length) (by rw[aGE,Nat.one_mul]at h;omega)];congr 1;rw[Nat.mod_eq_sub_mod (by omega:i>=zs.length)]
theorem oP(zs:List Ce)(n:Nat):(kL zs n).length=n*zs.length:=by
 simp[kL]
theorem FR(zs:List Ce)(z:Array Value)(hz:z.toList=zs.map Ce.v)(n:Nat):
 (Array.range (n*zs.length)).map (λi=>z[i%z.size]!)=aU (kL zs n):=by
 apply aHt
 intro i
 have hs:z.size=zs.length:=by rw[<-aIf,hz];simp
 by_cases hi:i<n*zs.length
 ·have h1:=PB zs n i hi
  have qB:0<zs.length:=by
   rcases aGT zs.length with e|e
   ·rw[e]at hi;simp at hi
   ·exact e
  have cA:i%zs.length<zs.length:=Nat.mod_lt _ qB
  have h2:(aU (kL zs n))[i]? =((kL zs n)[i]?).map Ce.v:=by simp[aU]
  rw[h2,h1,<-aGb,<-hz]
  simp[hi,hs,cA]
 ·have h2:(aU (kL zs n))[i]? =none:=by simp[aU,oP];omega
  rw[h2]
  simp[hi]
end Go.Vc
end
section
namespace Go.Vc
variable{P:Program}{T:TT}{G:List Nat}
theorem Ce.aaa(x:Ce):x.v.oneCell'=true:=by
 cases x with
 |s y=>cases y<;>rfl
 |_=>rfl
theorem iP:∀(l:List Ce)(w:World)(b o:Nat),(w.setCells b o (l.map Ce.v)).heap=ag w.heap b o l
 |[],_,_,_=>rfl
 |c::r,w,b,o=>by
  simp only[aGf,World.setCells,ag];rw[iP r,NR]
theorem oE:∀(l:List Value)(w:World)(b o:Nat),mN w (w.setCells b o l)
 |[],w,_,_=>mN.av w
 |c::r,w,b,o=>by
  simp only[World.setCells];exact mN.trans (b:=w.setCell ⟨b,o,none⟩ c) ⟨rfl,rfl,rfl⟩ (oE r _ b (o+1))
theorem BZ(l:List Ce)(b o:Nat)(w:World)(h:dW w.heap b o l.length):
 (storeCells ⟨b,o,none⟩ (l.map Ce.v)).run P w=.ok () (w.setCells b o (l.map Ce.v)):=by
 have:=run_storeCells_cells (P:=P) b o (l.map Ce.v) 0 w
  (λj hj=>by have:=(h j (by simpa using hj)).1;rw[xA];simpa using this)
  (λj hj=>by have:=(h j (by simpa using hj)).2;rw[Rh];simpa using this)
  (λv hv=>by obtain⟨c,_,rfl⟩:=List.mem_map.1 hv;exact c.aaa)
 simpa using this
theorem PC(l:List Ce)(b o:Nat)(w:World)(h:eK w.heap b o l):(loadCells ⟨b,o,none⟩ l.length).run P w=.ok (aU l) w:=by
 have:=run_loadCells_list (P:=P) (w:=w) ⟨b,o,none⟩ (l.map Ce.v) (λj v hj=>by
  rw[tG,xA];rw[aGb]at hj;obtain⟨c,hc,rfl⟩:=Option.map_eq_some_iff.1 hj;exact h j c hc)
 simpa[aU]using this
section
variable{n:Nat}{fr:Fr}{a:Act}{m:ah}{k:Fr->SV->ah->Prop}{dst:Option Tmp}{ty:TypeId}{pos:String}{after:Array Edge}{guard:Option (Nat×Bool)}
def DN(P:Program)(n:Nat)(a:Act)(m:ah)(o:Oper)(k:Fr->SV->ah->Prop):Prop:=
 ∀(w:World),w.heap=m->∀(next:Act->World->Prop)(Q:Exit->Act->World->Prop),
  (∀fr' x v w',k fr' x w'.heap->gW n fr' a->Bx n fr' w'.heap->x.Is v->mN w w'->next (a.put o.dst v) w')->o.wp P a w next Q
theorem gB{o:Oper}{fr':Fr}{x:SV}{v:Value}{w w':World}(hR:gW n fr' a)(hB:Bx n fr' w'.heap)(hx:x.Is v)(hs:mN w w')(hk:k fr' x w'.heap)(lF:(execOp a.eval o).run P w=.ok (.value v) w')
 {next:Act->World->Prop}{Q:Exit->Act->World->Prop}(hn:∀fr' x v w',k fr' x w'.heap->gW n fr' a->Bx n fr' w'.heap->x.Is v->mN w w'->next (a.put o.dst v) w'):o.wp P a w next Q:=by
 unfold Oper.wp
 rw[lF]
 exact hn fr' x v w' hk hR hB hx hs
theorem MV{d:Option Nat}{t:Nat}{l:List Ce}(hR:gW n fr a)(hB:Bx n fr m)(h:UD n fr d m t l k):
 ∃fr' x,gW n fr' a/\Bx n fr' (m.push (.cells (aU l) t))/\x.Is (.pointer (some ⟨m.size,0,none⟩))/\k fr' x (m.push (.cells (aU l) t)):=by
 unfold UD at h
 split at h
 ·split at h
  ·exact h.elim
  ·rename_i dd _ mF
   exact⟨(n+dd,.box m.size t l)::fr,.c (.bp (n+dd) m.size 0),hR.cons _ (λ_=>trivial),hB.new (Nat.le_add_right _ _) t l,rfl,h⟩
 ·exact⟨fr,.c (.p m.size 0),hR,hB.push _,rfl,h⟩
theorem PD{x:SV}{l:List Ce}(hR:gW n fr a)(hB:Bx n fr m)(h:N7 n fr m x l k):
 ∃fr' b o,gW n fr' a/\Bx n fr' (ag m b o l)/\(∀v,x.Is v->v=.pointer (some ⟨b,o,none⟩))/\dW m b o l.length/\k fr' .un (ag m b o l):=by
 unfold N7 at h
 split at h
 ·obtain⟨h1,h2⟩:=jG h.2
  exact⟨_,_,_,hR,hB.cg h1,λv hv=>hv,h.1,h2⟩
 ·split at h
  ·rename_i q b o _ b' e cs hq
   cases hc:Nat.ble (o+l.length) cs.length
   ·rw[hc]at h;exact h.elim
   ·rw[hc]at h
    obtain⟨rfl,h⟩:=h
    have hb:bK m b' e cs:=hB.ao q b' e cs (Or.inl hq)
    exact⟨(q,.box b' e (fP cs o l))::fr,_,_,hR.cons _ (λ_=>trivial),hB.uG hq o l,λv hv=>hv,hb.dW (aGZ hc),h⟩
  ·exact h.elim
  ·obtain⟨h1,h2⟩:=jG h.2
   exact⟨_,_,_,hR,hB.cg h1,λv hv=>hv,h.1,h2⟩
 ·exact h.elim
theorem Rq(hT:uK P T)(hR:gW n fr a)(hB:Bx n fr m){t:TypeId}(h:wr P T G n fr m dst ty k (.alloc t)):DN P n a m ⟨dst,.alloc t,ty,pos,after,guard⟩ k:=by
 intro w hw next Q hn
 subst hw;simp only[wr]at h;split at h
 ·rename_i ti Si;cases hc:ti.sq
  ·rw[hc]at h;obtain⟨z,hz,VL,Vd⟩:=tF hT Si hc;have kJ:z.cells=aU (ti.sh.map Sh.zero):=by apply Array.toList_inj.1;simp[hz,aU]
   obtain⟨fr',x,nI,ov,hx,hk⟩:=MV hR hB h;refine gB (w:=w) (x:=x) (v:=.pointer (some ⟨w.heap.size,0,none⟩)) (w':={w with heap:=w.heap.push (.cells (aU (ti.sh.map Sh.zero)) t)}) nI ov hx ⟨rfl,rfl,rfl⟩ hk ?_ hn;simp[execOp,Instr.alloc,VL,newVar,newRow,kJ]
  ·rw[hc]at h;exact h.elim
 ·exact h.elim
theorem Wk(hR:gW n fr a)(hB:Bx n fr m){t:TypeId}{x:Operand}(h:wr P T G n fr m dst ty k (.box t x)):DN P n a m ⟨dst,.box t x,ty,pos,after,guard⟩ k:=by
 intro w hw next Q hn
 subst hw;simp only[wr]at h;split at h
 ·rename_i l hl;split at h
  ·rename_i fr1 Li;obtain⟨TX,ON⟩:=nO Li hR hB;obtain⟨hk,hc⟩:=mR hl;obtain⟨fr',x',nI,ov,hx,sa⟩:=MV TX ON h;refine gB (w:=w) (x:=x') (v:=.pointer (some ⟨w.heap.size,0,none⟩)) (w':={w with heap:=w.heap.push (.cells (aU l) t)}) nI ov hx ⟨rfl,rfl,rfl⟩ sa ?_ hn;simp[execOp,Instr.box,newVar,newRow,hR.eq rfl hk,hc,aU]
  ·exact h.elim
 ·exact h.elim
theorem Mb(hR:gW n fr a)(hB:Bx n fr m){fn:Fn}{first captured:Array Operand}(h:wr P T G n fr m dst ty k (.makeFunc fn first captured)):DN P n a m ⟨dst,.makeFunc fn first captured,ty,pos,after,guard⟩ k:=by
 intro w hw next Q hn
 subst hw;simp only[wr]at h;cases hc:(first.toList.all (λx=>(ev fr x).fX)&&captured.toList.all (λx=>(ev fr x).fX))
 ·rw[hc]at h;exact h.elim
 ·rw[hc]at h;simp only[aF6]at hc;obtain⟨h1,h2⟩:=hc;have e1:(first.toList.map λx=>(ev fr x).v).toArray=first.map a.eval:=by
   apply Array.toList_inj.1;simp[zO hR h1]
  have e2:(captured.toList.map λx=>(ev fr x).v).toArray=captured.map a.eval:=by
   apply Array.toList_inj.1;simp[zO hR h2]
  simp only[aG4]at h;split at h
  ·rename_i fr1 Li;obtain⟨TX,ON⟩:=nO Li hR hB;refine gB (w:=w) (w':=w) TX ON (v:=.func fn (first.map a.eval) (captured.map a.eval)) ?_ (mN.av w) h ?_ hn
   ·show Value.func fn (first.map a.eval) (captured.map a.eval)=Value.func fn _ _;rw[e1,e2]
   ·simp[execOp,Instr.makeFunc]
  ·exact h.elim
theorem HH(hR:gW n fr a)(size:Nat):
 ∀(parts:List (Nat×Operand))(cs:List Ce)(k:List Ce->Prop),uN T fr size cs parts k->
  ∃l,k l/\Instr.fill (λi=>some (i*size,size)) (cs.map Ce.v).toArray (parts.map λp=>(p.1,a.eval p.2))=some (l.map Ce.v).toArray
 |[],cs,k,h=>⟨cs,h,rfl⟩
 |(i,x)::r,cs,k,h=>by
  simp only[uN]at h;split at h
  ·rename_i new zw;cases hc:(Nat.beq new.length size&&Nat.ble (i*size+new.length) cs.length)
   ·rw[hc]at h;exact h.elim
   ·rw[hc]at h;simp only[aF6]at hc;obtain⟨ME,Sj⟩:=hc;have ME:=aF2 ME;have Sj:=aGZ Sj;obtain⟨l,hk,hl⟩:=HH hR size r (jy cs (i*size) new) k h;refine⟨l,hk,?_⟩;obtain⟨TW,Ds⟩:=mR zw;have hx:a.eval x=(ev fr x).v:=hR.eq rfl TW;simp only[aGf,Instr.fill,hx,Ds,aHz,aGy,ME];rw[aFS bg,<-hl];congr 1;apply aHt;intro j;have e1:=MT (new.map Ce.v) 0 (i*size) (cs.map Ce.v).toArray j;rw[<-aIg,aIe];have e2:=zN cs (i*size) new j Sj;rw[show((List.map Ce.v (jy cs (i*size) new)).toArray)[j]? =((jy cs (i*size) new)[j]?).map Ce.v by simp,e2];rw[e1];simp;split<;>split<;>first|rfl|(exfalso;omega)|(congr 1;omega)
  ·exact h.elim
theorem Ir(hT:uK P T)(hR:gW n fr a)(hB:Bx n fr m){t:TypeId}{len:Nat}{parts:Array (Nat×Operand)}(h:wr P T G n fr m dst ty k (.buildSlice t len parts)):DN P n a m ⟨dst,.buildSlice t len parts,ty,pos,after,guard⟩ k:=by
 intro w hw next Q hn
 subst hw;simp only[wr]at h;split at h
 ·rename_i e sh OL ht;split at h
  ·rename_i te TY;cases hc:(te.sq||!(Nat.ble (len*te.sh.length) 16777216))
   ·rw[hc]at h;simp only[aF9,aIh]at hc;have hle:=aGZ hc.2;have hu:=(gX (hT.zK ht)).1;obtain⟨z,hz,VL,Vd⟩:=tF hT TY hc.1;have vK:=λw=>ib hT TY hc.1 w;obtain⟨l,hk,hl⟩:=HH hR _ _ _ _ h;cases Li:DM fr l with
    |none=>rw[Li]at hk;exact hk.elim
    |some fr1=>
    rw[Li]at hk;obtain⟨TX,ON⟩:=nO Li hR hB;refine gB (w:=w) (x:=.c (.s (.mk w.heap.size 0 len len))) (v:=.slice (some ⟨w.heap.size,0,none⟩) len len) (w':={w with heap:=w.heap.push (.cells (aU l) e)}) TX (ON.push _) rfl ⟨rfl,rfl,rfl⟩ hk ?_ hn;have hpp:(parts.map λp=>(p.1,a.eval p.2)).toList=parts.toList.map λp=>(p.1,a.eval p.2):=az;have hzz:z.cells.toList=(te.sh.map Sh.zero).map Ce.v:=by simp[hz]
    have hzl:(te.sh.map Sh.zero).length=te.sh.length:=az;have ji:=FR (te.sh.map Sh.zero) z.cells hzz len;rw[hzl]at ji;by_cases h0:len*te.sh.length=0
    ·have XC:kL (te.sh.map Sh.zero) len=[]:=by
      apply List.length_eq_zero_iff.1;rw[oP,hzl,h0]
     rw[XC]at hl;simp only[execOp,Instr.buildSlice,Sem.run_bind,run_underlying hu,Result.andThen_ok,vK,h0];simp only[hpp];have e0:(Array.map (λx=>(default:Value)) (Array.range 0))=#[]:=az;simp at hl⊢;rw[e0,hl];simp[newRow,aU]
    ·simp only[execOp,Instr.buildSlice,Sem.run_bind,run_underlying hu,Result.andThen_ok,vK,h0,aHA];have:¬(len*te.sh.length>2^24):=ab;simp only[this,aHA,VL,Sem.run_bind,Sem.run_pure,Result.andThen_ok,hpp];rw[ji];simp only[aU]at hl⊢;simp[hl,newRow]
   ·rw[hc]at h;exact h.elim
  ·exact h.elim
 ·exact h.elim
theorem Rr(hT:uK P T)(hR:gW n fr a)(hB:Bx n fr m){t:TypeId}{x y:Operand}(h:wr P T G n fr m dst ty k (.store t x y)):DN P n a m ⟨dst,.store t x y,ty,pos,after,guard⟩ k:=by
 intro w hw next Q hn
 subst hw;simp only[wr]at h;split at h
 ·rename_i l ti hl Si;cases hc:(ti.sq||!(Nat.beq l.length ti.sh.length))
  ·rw[hc]at h;simp only[aHd]at h;simp only[aF9,aIh]at hc;split at h
   ·rename_i fr1 Li;obtain⟨TX,ON⟩:=nO Li hR hB;obtain⟨fr',b,o,nI,ov,hx,lx,hk⟩:=PD TX ON h;have hlen:=aF2 hc.2;obtain⟨TW,Ds⟩:=mR hl;have vK:=λw=>ib hT Si hc.1 w;unfold Oper.wp;have lF:(execOp a.eval ⟨dst,.store t x y,ty,pos,after,guard⟩).run P w=.ok .skip (w.setCells b o (l.map Ce.v)):=by
     have vL:=BZ (P:=P) l b o w lx;have ph:a.eval x=.pointer (some ⟨b,o,none⟩):=hx _ (hR.ev x);have lj:(a.eval y).cells=(l.map Ce.v).toArray:=by rw[hR.eq rfl TW,Ds]
     simp only[execOp,Instr.storeAt,ph,Instr.sureAddr,storeVar,Sem.run_bind,Sem.run_pure,Result.andThen_ok,vK,lj,aHz,aGy,hlen];simp[vL]
    rw[lF];exact hn fr' .un undef _ (by rw[iP];exact hk) nI (by rw[iP];exact ov) rfl (oE _ _ _ _)
   ·exact h.elim
  ·rw[hc]at h;exact h.elim
 ·exact h.elim
end
end Go.Vc
end
section
namespace Go.Vc
variable{P:Program}{T:TT}{G:List Nat}
section
variable{n:Nat}{fr:Fr}{a:Act}{m:ah}{k:Fr->SV->ah->Prop}{dst:Option Tmp}{ty:TypeId}{pos:String}{after:Array Edge}{guard:Option (Nat×Bool)}
theorem N9{x:Int}(h0: -9223372036854775808<=x)(h1:x<=9223372036854775807):IntKind.i64.wrap x=x:=by
 have e1:((2:Int)^IntKind.i64.bits)=18446744073709551616:=aO;have e2:((2:Int)^(IntKind.i64.bits -1))=9223372036854775808:=aO;have e3:IntKind.i64.signed=true:=rfl;simp only[IntKind.wrap,e1,e2,e3,aIi,aFP];split<;>omega
theorem aF{x:Int}(h0: -9223372036854775808<=x)(h1:x<=9223372036854775807):bS x=x:=N9 h0 h1
theorem JK(hT:uK P T)(hR:gW n fr a)(hB:Bx n fr m){t:TypeId}{x y:Operand}(h:wr P T G n fr m dst ty k (.makeSlice t x y)):DN P n a m ⟨dst,.makeSlice t x y,ty,pos,after,guard⟩ k:=by
 intro w hw next Q hn
 subst hw;simp only[wr]at h;split at h
 ·rename_i e sh OL l c ht hx hy;split at h
  ·rename_i te TY;cases hc:te.sq
   ·rw[hc]at h;obtain⟨h0,h1,h2,h3,hk⟩:=h;have hu:=(gX (hT.zK ht)).1;obtain⟨z,hz,VL,Vd⟩:=tF hT TY hc;obtain⟨ti,hb,apk,htr,_⟩:=DH hT TY hc;have vK:=λw=>ib hT TY hc w;refine gB (w:=w) (x:=.c (.s (.mk w.heap.size 0 l.toNat c.toNat))) (v:=.slice (some ⟨w.heap.size,0,none⟩) l.toNat c.toNat) (w':={w with heap:=w.heap.push (.cells (aU (kL (te.sh.map Sh.zero) c.toNat)) e)}) hR (hB.push _) rfl ⟨rfl,rfl,rfl⟩ hk ?_ hn;have hzz:z.cells.toList=(te.sh.map Sh.zero).map Ce.v:=by simp[hz]
    have hzl:(te.sh.map Sh.zero).length=te.sh.length:=az;have ji:=FR (te.sh.map Sh.zero) z.cells hzz c.toNat;rw[hzl]at ji;have ph:a.eval x=.int .i64 l:=hR.eq hx rfl;have lj:a.eval y=.int .i64 c:=hR.eq hy rfl;have uB:IntKind.i64.wrap l=l:=N9 ab ab;have hwc:IntKind.i64.wrap c=c:=N9 ab ab;have hn1:¬c<0:=ab;have hn2:¬((te.bytes:Int)*c>2^48):=by
     have:(2:Int)^48=281474976710656:=aO;omega
    have hn3:¬l<0:=ab;have hn4:¬l>c:=ab;simp only[execOp,Instr.makeSlice,Sem.run_bind,run_underlying hu,Result.andThen_ok,asInt,asIntOf,ph,lj,Sem.run_pure,htr,uB,hwc,hb];simp only[hn1,hn2,hn3,hn4,decide_false,aIj,aGU,aHA];simp only[Sem.run_bind,Sem.run_pure,Result.andThen_ok,run_askRoom,vK];by_cases QZ:c.toNat*te.sh.length=0
    ·have XC:kL (te.sh.map Sh.zero) c.toNat=[]:=by
      apply List.length_eq_zero_iff.1;rw[oP,hzl,QZ]
     rw[XC];have e0:(Array.map (λx=>(default:Value)) (Array.range 0))=#[]:=az;simp[QZ,newRow,aU];rw[e0]
    ·simp only[QZ,aHA,Sem.run_bind,VL,Result.andThen_ok,Sem.run_pure];rw[ji];simp[newRow]
   ·rw[hc]at h;exact h.elim
  ·exact h.elim
 ·exact h.elim
theorem JL:∀{sh:List Sh}{k:List Ce->Prop},Zx sh k->∃l,k l
 |[],_,h=>⟨_,h⟩
 |_::_,_,⟨x,h⟩=>let⟨_,hl⟩:=JL h;⟨_,hl⟩
theorem DO:∀{ts:List Nat}{k:List AV->Prop},UC T ts k->∃l,k l
 |[],_,h=>⟨_,h⟩
 |t::ts,k,h=>by
  simp only[UC]at h;split at h
  ·obtain⟨l,hl⟩:=JL h;obtain⟨l',BP⟩:=DO hl;exact⟨_,BP⟩
  ·obtain⟨x,hx⟩:=h;obtain⟨l',BP⟩:=DO hx;exact⟨_,BP⟩
  ·obtain⟨x,hx⟩:=h;obtain⟨l',BP⟩:=DO hx;exact⟨_,BP⟩
  ·exact h.elim
theorem UE{t:Nat}{v:Value}{k:SV->Prop}(h:PA T t v k):∃x:SV,x.Is v/\k x:=by
 unfold PA at h;split at h
 ·exact⟨.fC,trivial,h⟩
 ·obtain⟨l,hv,hk⟩:=DO h;exact⟨.tup l,hv,hk⟩
 ·obtain⟨l,hv,hk⟩:=JL h;exact⟨.agg l,hv,hk⟩
 ·rename_i s _ _;obtain⟨x,hv,hk⟩:=h;exact⟨.c (s.mk x),hv,hk⟩
 ·obtain⟨x,hv,hk⟩:=h;exact⟨.c (.s x),hv,hk⟩
 ·exact h.elim
theorem JM(hG:Z9 P G)(hR:gW n fr a){fr':Fr}(nI:gW n fr' a)(ov:Bx n fr' m){f:Operand}{args:Array Operand}{ts:Array TypeId}{g:Nat}{first captured:Array Value}(OO:a.eval f=.func (.func g) first captured)
 (hgG:G.elem g=true)(TW:args.toList.all (λx=>(ev fr x).fX)=true)
 (h:aD P g (first.toList++(args.toList.map λx=>(ev fr x).v)++captured.toList) m λv m'=>xD (LJ n fr' []) m m' (PA T ty v λx=>k fr' x m')):
 DN P n a m ⟨dst,.call ⟨.value f,args,ts⟩,ty,pos,after,guard⟩ k:=by
 intro w hw next Q hn
 subst hw
 have hg:FQ P g=true:=List.all_eq_true.1 hG g (by simpa using hgG)
 have fV:args.map a.eval=(args.toList.map λx=>(ev fr x).v).toArray:=by
  apply Array.toList_inj.1;simp[<-zO hR TW]
 unfold FQ at hg
 split at hg
 ·rename_i fn hfn
  simp only[aF6,aGQ]at hg
  have XD:fn.body.isNone=false:=by cases hb:fn.body<;>simp_all
  have lF:(execOp a.eval ⟨dst,.call ⟨.value f,args,ts⟩,ty,pos,after,guard⟩).run P w=
   .ok (.enter g (first.toList++(args.toList.map λx=>(ev fr x).v)++captured.toList).toArray) w:=by
   simp only[execOp,resolve,OO,fV,Deferred.ofValue,Sem.run_bind,Sem.run_pure,Result.andThen_ok,invoke,callFunc,run_program,hfn,hg.1,XD,aGU,aHA]
   simp
  unfold Oper.wp
  rw[lF]
  show Calls P g _ w _
  refine(h w rfl).mono ?_
  rintro e w' ⟨v,rfl,hs,Ht⟩
  obtain⟨Sk,Ht⟩:=jG Ht
  obtain⟨x,hx,hk⟩:=UE Ht
  exact hn fr' x v w' hk nI (ov.cg Sk) hx hs
 ·simp at hg
theorem UF(hG:Z9 P G)(hR:gW n fr a)(hB:Bx n fr m){f:Operand}{args:Array Operand}{ts:Array TypeId}(h:wr P T G n fr m dst ty k (.call ⟨.value f,args,ts⟩)):DN P n a m ⟨dst,.call ⟨.value f,args,ts⟩,ty,pos,after,guard⟩ k:=by
 simp only[wr,Wh]at h;split at h
 ·exact h.elim
 rename_i fr1 Li;obtain⟨TX,ON⟩:=nO Li hR hB;split at h
 ·rename_i g first captured hf
  cases hc:(G.elem g&&args.toList.all (λx=>(ev fr x).fX))
  ·rw[hc]at h;exact h.elim
  ·rw[hc]at h;simp only[aF6]at hc;exact JM hG hR TX ON (hR.eq hf rfl) hc.1 hc.2 h
 ·rename_i q hf;cases hc:(args.toList.all (λx=>(ev fr x).fX))
  ·rw[hc]at h;exact h.elim
  ·rw[hc]at h;obtain⟨g,hg,hgG,h⟩:=h;have hv:a.eval f=.func (.func g) q.2.1 q.2.2:=by
    rw[<-hg];exact hR.eq hf rfl
   exact JM hG hR TX ON hv hgG hc h
 ·exact h.elim
theorem pZ{t:TypeId}(hu:P.underlying t=some (.int .i64))(e:Bool)(x:Int)(w:World):(Instr.checkKey e 10000 t (.int .i64 x)).run P w=.ok () w:=by
 have:Instr.checkKey e 10000 t (.int .i64 x)=Instr.checkKey e (9999+1) t (.int .i64 x):=rfl;rw[this];generalize 9999=d;simp[Instr.checkKey,run_underlying hu]
theorem xE(x:Int):∀(es:List MapEntry)(l:List (Int×Int))(i:Nat),es.map (λe=>(e.key,e.val))=l.map (λp=>(Value.int .i64 p.1,Value.int .i64 p.2))->
 (Instr.findNow (.int .i64) (.int .i64 x) es i=some none/\N6 l x=0/\(∀v,Rp l x v=l++[(x,v)]))\/
 ∃j u,Instr.findNow (.int .i64) (.int .i64 x) es i=some (some (i+j,.int .i64 u))/\N6 l x=u/\j<es.length/\l[j]? =some (x,u)/\∀v,Rp l x v=l.set j (x,v)
 |[],[],i,_=>Or.inl ⟨rfl,rfl,λv=>rfl⟩
 |[],_::_,i,h=>by simp at h
 |_::_,[],i,h=>by simp at h
 |e::es,(j,u)::l,i,h=>by
  simp only[aGf,List.cons.injEq,aHX]at h;obtain⟨⟨hk,hv⟩,h⟩:=h;have hs:Instr.sameNow (.int .i64) (.int .i64 x) e.key=some (x==j):=by rw[hk];simp[Instr.sameNow]
  by_cases hx:x=j
  ·subst hx;refine Or.inr ⟨0,u,?_,?_,az,az,?_⟩
   ·simp[Instr.findNow,hs,hv]
   ·simp[N6]
   ·intro v;simp[Rp]
  ·have hb:(x==j)=false:=by simpa using hx
   rcases xE x es l (i+1) h with⟨h1,h2,h3⟩|⟨q,r,h1,h2,h3,h4,h5⟩
   ·refine Or.inl ⟨?_,?_,?_⟩
    ·simp[Instr.findNow,hs,hb,h1]
    ·simp[N6,hx,h2]
    ·intro v;simp[Rp,hx,h3]
   ·refine Or.inr ⟨q+1,r,?_,?_,by simpa using h3,by simpa using h4,?_⟩
    ·have e1:i+1+q=i+(q+1):=ab;simp[Instr.findNow,hs,hb,h1,e1]
    ·simp[N6,hx,h2]
    ·intro v;simp[Rp,hx,h5]
theorem Oa(hR:gW n fr a)(hB:Bx n fr m){t:TypeId}{r:Option Operand}(h:wr P T G n fr m dst ty k (.makeMap t r)):DN P n a m ⟨dst,.makeMap t r,ty,pos,after,guard⟩ k:=by
 intro w hw next Q hn
 subst hw;cases r with
 |some r=>exact h.elim
 |none=>
  refine gB (w:=w) (x:=.c (.mp w.heap.size)) (v:=.map (some w.heap.size)) (w':={w with heap:=w.heap.push (.map #[] 0)}) hR (hB.push _) rfl ⟨rfl,rfl,rfl⟩ h ?_ hn;simp[execOp,Instr.makeMap]
theorem PE(hT:uK P T)(hR:gW n fr a)(hB:Bx n fr m){t:TypeId}{x y:Operand}{ok:Bool}(h:wr P T G n fr m dst ty k (.lookup t x y ok)):DN P n a m ⟨dst,.lookup t x y ok,ty,pos,after,guard⟩ k:=by
 intro w hw next Q hn
 subst hw;cases ok with
 |true=>exact h.elim
 |false=>
  simp only[wr]at h;split at h
  ·rename_i kt et sh OL b n0 ht hx hy;split at h
   ·rename_i b1 b2 hkt het;obtain⟨l,⟨es,clock,hes,Q0⟩,hk⟩:=h;have hu:=(zL (hT.zK ht)).1;obtain⟨⟨d,hd,hp⟩,_⟩:=mP (hT.zK hkt);have hdi:d=.int .i64:=by
     unfold BY at hp;split at hp<;>simp_all
    subst hdi;obtain⟨z,hz,VL,Vd⟩:=tF hT het rfl;have QZ:z=.int .i64 0:=by
     have:z.cells.toList=[Value.int .i64 0]:=hz;have hna:=Vd rfl;cases z<;>first|(simp[Value.cells]at this;done)|(simp[Value.cells]at this;rw[this.1,this.2])|exact absurd rfl (hna _)
    have ph:a.eval x=.map (some b):=hR.eq hx rfl;have lj:a.eval y=.int .i64 n0:=hR.eq hy rfl;have ZA:(getObj b).run P w=.ok (.map es clock) w:=by simp[getObj,Sem.run,hes]
    refine gB (w:=w) (x:=.c (.i (N6 l n0))) (v:=.int .i64 (N6 l n0)) (w':=w) hR hB rfl (mN.av w) hk ?_ hn;rcases xE n0 es.toList l 0 Q0 with⟨h1,h2,_⟩|⟨j,u,h1,h2,_⟩
    ·simp[execOp,Instr.lookup,run_underlying hu,ph,lj,ZA,pZ hd,Instr.findKey,run_underlying hd,h1,VL,QZ,h2]
    ·simp[execOp,Instr.lookup,run_underlying hu,ph,lj,ZA,pZ hd,Instr.findKey,run_underlying hd,h1,h2]
   ·exact h.elim
  ·exact h.elim
theorem JN(hT:uK P T)(hR:gW n fr a)(hB:Bx n fr m){t:TypeId}{x y z:Operand}(h:wr P T G n fr m dst ty k (.mapUpdate t x y z)):DN P n a m ⟨dst,.mapUpdate t x y z,ty,pos,after,guard⟩ k:=by
 intro w hw next Q hn
 subst hw;simp only[wr]at h;split at h
 ·rename_i kt et sh OL b n0 v0 ht hx hy hz;split at h
  ·rename_i b1 hkt;obtain⟨l,⟨es,clock,hes,Q0⟩,hk⟩:=h;have hu:=(zL (hT.zK ht)).1;obtain⟨⟨d,hd,hp⟩,_⟩:=mP (hT.zK hkt);have hdi:d=.int .i64:=by
    unfold BY at hp;split at hp<;>simp_all
   subst hdi;have ph:a.eval x=.map (some b):=hR.eq hx rfl;have lj:a.eval y=.int .i64 n0:=hR.eq hy rfl;have hz':a.eval z=.int .i64 v0:=hR.eq hz rfl;have ZA:(getObj b).run P w=.ok (.map es clock) w:=by simp[getObj,Sem.run,hes]
   have hso:∀o,(setObj b o).run P w=.ok () {w with heap:=w.heap.setIfInBounds b o}:=λo=>by simp[setObj,Sem.run,hes]
   have ajT:b<w.heap.size:=(Array.getElem?_eq_some_iff.1 hes).1;unfold Oper.wp;rcases xE n0 es.toList l 0 Q0 with⟨h1,h2,h3⟩|⟨j,u,h1,h2,h3,h4,h5⟩
   ·have lF:(execOp a.eval ⟨dst,.mapUpdate t x y z,ty,pos,after,guard⟩).run P w=.ok .skip {w with heap:=w.heap.setIfInBounds b (.map (es.push {key:=.int .i64 n0,val:=.int .i64 v0,born:=clock}) (clock+1))}:=by
     simp[execOp,Instr.mapUpdate,run_underlying hu,ph,lj,hz',ZA,pZ hd,Instr.findKey,run_underlying hd,h1,hso]
    rw[lF];have sa:=jG (hk {w with heap:=w.heap.setIfInBounds b (.map (es.push {key:=.int .i64 n0,val:=.int .i64 v0,born:=clock}) (clock+1))}.heap ?_ az ?_)
    ·exact hn fr .un undef _ sa.2 hR (hB.cg sa.1) rfl ⟨rfl,rfl,rfl⟩
    ·refine⟨_,_,by simp[ajT];exact⟨rfl,rfl⟩,?_⟩;rw[h3];simp[Q0]
    ·intro j hj;simp[aGI (aHh hj)]
   ·have aaL:(es[j]?).map (·.key)=some (.int .i64 n0):=by
     have:=aHB (λq=>(q[j]?).map (·.1)) Q0;simpa[h4]using this
    have apq:(Instr.keyThatStays (.int .i64 n0) (.int .i64 n0)).run P w=.ok (.int .i64 n0) w:=by
     simp[Instr.keyThatStays,Instr.sameBits]
    have lF:(execOp a.eval ⟨dst,.mapUpdate t x y z,ty,pos,after,guard⟩).run P w=.ok .skip {w with heap:=w.heap.setIfInBounds b (.map (es.modify j λe=>{e with key:=.int .i64 n0,val:=.int .i64 v0}) clock)}:=by
     simp only[execOp,Instr.mapUpdate,run_underlying hu,ph,lj,hz',ZA,pZ hd,Instr.findKey,run_underlying hd,h1,Sem.run_bind,Result.andThen_ok,Sem.run_pure,aGa,aaL,aHp,apq,hso]
    rw[lF];have sa:=jG (hk {w with heap:=w.heap.setIfInBounds b (.map (es.modify j λe=>{e with key:=.int .i64 n0,val:=.int .i64 v0}) clock)}.heap ?_ az ?_)
    ·exact hn fr .un undef _ sa.2 hR (hB.cg sa.1) rfl ⟨rfl,rfl,rfl⟩
    ·refine⟨_,_,by simp[ajT];exact⟨rfl,rfl⟩,?_⟩;rw[h5];apply aGC;intro q;have hq:=aHB (λ(q':List (Value×Value))=>q'[q]?) Q0;simp only[aGb]at hq;simp only[aGb,aGR,aH2,aHC]at hq⊢;by_cases hjq:j=q
     ·subst hjq;have hjl:j<l.length:=(List.getElem?_eq_some_iff.1 h4).1;have hje:j<es.size:=by simpa using h3
      simp[hjl,hje]
     ·simp only[hjq,aHA];exact hq
    ·intro j hj;simp[aGI (aHh hj)]
  ·exact h.elim
 ·exact h.elim
theorem qE(l:List Ce)(z:Sl)(c size:Nat)(hl:l.length=c*size)(w:World)(h:eK w.heap z.ao z.off l)(hz:c<=z.len):
 (Builtin.firstCells size c z.v).run P w=.ok (aU l) w:=by
 cases z with
 |nil=>
  have LN:c=0:=by simp at hz;omega
  have:l=[]:=List.length_eq_zero_iff.1 (by rw[hl,LN];simp)
  subst this
  simp[Builtin.firstCells,Sl.v,aU]
 |BV b0 o0 sp=>
  have LN:c=0:=by simp at hz;omega
  have:l=[]:=List.length_eq_zero_iff.1 (by rw[hl,LN];simp)
  subst this
  simp[Builtin.firstCells,Sl.v,aU,LN,loadCells,loadCellsFrom]
 |mk b o len cap=>
  simp only[Builtin.firstCells,Sl.v,<-hl]
  exact PC l b o w h
theorem Ob(zs:List Ce)(z:Array Value)(hz:z.toList=zs.map Ce.v)(n:Nat):Builtin.zeroCells z n=aU (kL zs n):=by
 have hs:z.size=zs.length:=by rw[<-aIf,hz];simp
 rw[<-FR zs z hz n,Builtin.zeroCells,hs]
theorem PF(l r:List Ce):aU (l++r)=aU l++aU r:=by simp[aU]
theorem PG(hT:uK P T)(hR:gW n fr a)(hB:Bx n fr m){args:Array Operand}{ts:Array TypeId}(h:wr P T G n fr m dst ty k (.call ⟨.builtin .append,args,ts⟩)):DN P n a m ⟨dst,.call ⟨.builtin .append,args,ts⟩,ty,pos,after,guard⟩ k:=by
 intro w hw next Q hn
 subst hw;simp only[wr]at h;split at h
 ·rename_i x y t u fV hts;split at h
  ·rename_i e sh OL e2 sh2 by2 s z ht hu2 hx hy;split at h
   ·rename_i te TY;cases hc:(te.sq||Nat.beq te.bytes 0)
    ·rw[hc]at h;simp only[aF9]at hc;obtain⟨new,Ju,hnr,dp,acI⟩:=h;have e1:args=#[x,y]:=Array.toList_inj.1 (by simpa using fV);have e2':ts=#[t,u]:=Array.toList_inj.1 (by simpa using hts);subst e1;subst e2';have hu:=(gX (hT.zK ht)).1;have XA:=(gX (hT.zK hu2)).1;obtain⟨zv,hz,VL,Vd⟩:=tF hT TY hc.1;obtain⟨ti,hb,apk,htr,_⟩:=DH hT TY hc.1;have vK:=λw=>ib hT TY hc.1 w;have ph:a.eval x=s.v:=hR.eq hx rfl;have lj:a.eval y=z.v:=hR.eq hy rfl;have ZB:(Builtin.lenOf z.v).run P w=.ok z.len w:=by cases z<;>simp[Builtin.lenOf,Sl.v,Sl.len]
     have hzl:(te.sh.map Sh.zero).length=te.sh.length:=az;rw[hzl]at Ju;simp only[hzl]at dp acI;have fu:∀w':World,w'.heap=w.heap->(Builtin.firstCells te.sh.length z.len z.v).run P w'=.ok (aU new) w':=λw' rJ=>
      qE new z z.len te.sh.length Ju w' (by rw[rJ];exact hnr) (aFR _)
     have hsv:=s.aeZ;by_cases hle:s.len+z.len<=s.cap
     ·obtain⟨lx,hk⟩:=dp hle;cases s with
      |nil=>
       simp only[Sl.NS,Sl.Z3]at hle lx hk;have QZ:z.len=0:=ab;have:new=[]:=List.length_eq_zero_iff.1 (by rw[Ju,QZ];simp);subst this;obtain⟨Sk,hk⟩:=jG hk;refine gB (w:=w) (x:=.c (.s .nil)) (v:=.slice none 0 0) (w':=w) hR hB rfl (mN.av w) hk ?_ hn;have dA:a.eval x=.slice none 0 0:=ph;have ZC:=fu w rfl;simp only[execOp,resolve,Sem.run_bind,Sem.run_pure,Result.andThen_ok,invoke,builtin,Builtin.append_,aG8,aGf,aGx,dA,lj];rw[QZ]at ZB ZC;simp[run_underlying hu,run_underlying XA,vK,ZB,ZC]
      |BV b0 o0 sp=>
       simp only[Sl.SY,Sl.Z2]at hle lx hk;have QZ:z.len=0:=ab;have:new=[]:=List.length_eq_zero_iff.1 (by rw[Ju,QZ];simp);subst this;obtain⟨Sk,hk⟩:=jG hk;refine gB (w:=w) (x:=.c (.s (.BV b0 o0 sp))) (v:=.slice (some ⟨b0,o0,some sp⟩) 0 0) (w':=w) hR hB rfl (mN.av w) hk ?_ hn;have dA:a.eval x=.slice (some ⟨b0,o0,some sp⟩) 0 0:=ph;have ZC:=fu w rfl;simp only[execOp,resolve,Sem.run_bind,Sem.run_pure,Result.andThen_ok,invoke,builtin,Builtin.append_,aG8,aGf,aGx,dA,lj];rw[QZ]at ZB ZC;simp[run_underlying hu,run_underlying XA,vK,ZB,ZC,aU,storeCells]
      |mk b o len cap=>
       simp only[Sl.eO,Sl.NU,Sl.gN,Sl.lQ]at hle lx hk;obtain⟨Sk,hk⟩:=jG hk;refine gB (w:=w) (x:=.c (.s (.mk b o (len+z.len) cap))) (v:=.slice (some ⟨b,o,none⟩) (len+z.len) cap) (w':=w.setCells b (o+len*te.sh.length) (new.map Ce.v)) hR (by rw[iP];exact hB.cg Sk) rfl (oE _ _ _ _) (by rw[iP];exact hk) ?_ hn;have vL:=BZ (P:=P) new b (o+len*te.sh.length) w lx;have dA:a.eval x=.slice (some ⟨b,o,none⟩) len cap:=ph;simp only[execOp,resolve,Sem.run_bind,Sem.run_pure,Result.andThen_ok,invoke,builtin,Builtin.append_,aG8,aGf,aGx,dA,lj];simp[run_underlying hu,run_underlying XA,vK,ZB,hle,fu w rfl,tG,aU,vL]
     ·obtain⟨hbound,old,If,Vf,hk⟩:=acI ab;have aul:=growslice_fits (need:=s.len+z.len) (old:=s.cap) (bytes:=te.bytes) ab hbound;have zy:te.bytes≠0:=λe=>by rw[e]at hc;simp at hc
      have axA:¬(((s.len+z.len:Nat):Int)>IntKind.i64.max/\te.bytes=0):=λhh=>zy hh.2;have hold:∀w':World,w'.heap=w.heap->(Builtin.firstCells te.sh.length s.len s.v).run P w'=.ok (aU old) w':=λw' rJ=>
       qE old s s.len te.sh.length If w' (by rw[rJ];exact Vf) (aFR _)
      let q:Question:=.appendCap (s.len+z.len) s.cap e;let nc:=q.cut (w.tape w.drawn q);let w1:World:={w with drawn:=w.drawn+1};have hnc:s.len+z.len<=nc:=Nat.le_add_right _ _;refine gB (w:=w) (x:=.c (.s (.mk w.heap.size 0 (s.len+z.len) nc))) (v:=.slice (some ⟨w.heap.size,0,none⟩) (s.len+z.len) nc)
       (w':={w1 with heap:=w.heap.push (.cells (aU (old++new++kL (te.sh.map Sh.zero) (nc -(s.len+z.len)))) e)}) hR (hB.push _) rfl ⟨rfl,rfl,rfl⟩ (jG (hk nc hnc)).2 ?_ hn
      have hzz:zv.cells.toList=(te.sh.map Sh.zero).map Ce.v:=by simp[hz]
      have hze:=Ob (te.sh.map Sh.zero) zv.cells hzz (nc -(s.len+z.len));have hfo:q.forced=false:=rfl;have XE:¬(Builtin.nextslicecap (s.len+z.len) s.cap*te.bytes>2^48):=by
       have:(2:Nat)^48=281474976710656:=aO;omega
      simp only[execOp,resolve,Sem.run_bind,Sem.run_pure,Result.andThen_ok,invoke,builtin,Builtin.append_,aG8,aGf,aGx,ph,lj];have ho1:=hold w1 rfl;have hn1:=fu w1 rfl;rw[hsv]at ho1⊢;simp only[aG0,aHi,aGA,Sem.run_bind,run_underlying hu,run_underlying XA,Result.andThen_ok,vK,Sem.run_pure,ZB,aGU,aHA,hle,htr,hb,false_or];simp only[zy,and_false,aHA,XE,Sem.run_bind,run_choose,hfo,aGU,Result.andThen_ok,htr,run_askRoom,ho1,aHS,aIR,hn1,VL,hze,newRow,run_newObj,Sem.run_pure];simp[PF];rw[hb,aFS ab,aFS (show¬(Question.appendCap (s.len+z.len) s.cap e).forced=true by simp[Question.forced])];have Q1:(Builtin.firstCells te.sh.length s.len (Value.slice s.bN s.len s.cap)).run P w.drew=.ok (aU old) w.drew:=ho1;have hn2:(Builtin.firstCells te.sh.length z.len z.v).run P w.drew=.ok (aU new) w.drew:=hn1;simp only[htr,Result.andThen_ok,Q1,hn2,VL];have apt:Builtin.zeroCells zv.cells ((Question.appendCap (s.len+z.len) s.cap e).cut (w.tape w.drawn (Question.appendCap (s.len+z.len) s.cap e)) -(s.len+z.len))=aU (kL (te.sh.map Sh.zero) (nc -(s.len+z.len))):=hze;rw[apt];rfl
    ·rw[hc]at h;exact h.elim
   ·exact h.elim
  ·exact h.elim
 ·exact h.elim
end
end Go.Vc
end
section
namespace Go.Vc
variable{P:Program}{T:TT}{G:List Nat}
section
variable{n:Nat}{fr:Fr}{a:Act}{m:ah}{k:Fr->SV->ah->Prop}{dst:Option Tmp}{ty:TypeId}{pos:String}{after:Array Edge}{guard:Option (Nat×Bool)}
theorem UG(hT:uK P T)(hR:gW n fr a)(hB:Bx n fr m){args:Array Operand}{ts:Array TypeId}(h:wr P T G n fr m dst ty k (.call ⟨.builtin .copy,args,ts⟩)):DN P n a m ⟨dst,.call ⟨.builtin .copy,args,ts⟩,ty,pos,after,guard⟩ k:=by
 intro w hw next Q hn
 subst hw;simp only[wr]at h;split at h
 ·rename_i x y t ts' fV hts;split at h
  ·rename_i e sh OL s z ht hx hy;split at h
   ·rename_i te TY;cases hc:te.sq
    ·rw[hc]at h;obtain⟨new,Ju,hnr,lx,hk⟩:=h;obtain⟨Sk,hk⟩:=jG hk;have e1:args=#[x,y]:=Array.toList_inj.1 (by simpa using fV);subst e1;have ZD:ts[0]? =some t:=by rw[<-aH2,hts];rfl
     have hu:=(gX (hT.zK ht)).1;have vK:=λw=>ib hT TY hc w;have ph:a.eval x=s.v:=hR.eq hx rfl;have lj:a.eval y=z.v:=hR.eq hy rfl;have ZB:(Builtin.lenOf z.v).run P w=.ok z.len w:=by cases z<;>simp[Builtin.lenOf,Sl.v,Sl.len]
     have fu:(Builtin.firstCells te.sh.length (Nat.min z.len s.len) z.v).run P w=.ok (aU new) w:=
      qE new z _ te.sh.length Ju w hnr (Nat.min_le_left _ _)
     refine gB (w:=w) (x:=.c (.i (Nat.min z.len s.len:Nat))) (v:=.int .i64 (Nat.min z.len s.len:Nat)) (w':=w.setCells s.ao s.off (new.map Ce.v)) hR (by rw[iP];exact hB.cg Sk) rfl (oE _ _ _ _) (by rw[iP];exact hk) ?_ hn;cases s with
     |nil=>
      have XG:Nat.min z.len Sl.nil.len=0:=az;have:new=[]:=List.length_eq_zero_iff.1 (by rw[Ju,XG];simp);subst this;have dA:a.eval x=.slice none 0 0:=ph;simp only[Sl.NS]at fu⊢;simp only[execOp,resolve,Sem.run_bind,Sem.run_pure,Result.andThen_ok,invoke,builtin,Builtin.copy_,aG8,aGf,aGx,dA,lj,ZD];simp only[aG0,aHi,aGA,Sem.run_bind,run_underlying hu,Result.andThen_ok,ZB,vK,fu,Sem.run_pure];rfl
     |BV b0 o0 sp=>
      have XG:Nat.min z.len (Sl.BV b0 o0 sp).len=0:=az;have:new=[]:=List.length_eq_zero_iff.1 (by rw[Ju,XG];simp);subst this;have dA:a.eval x=.slice (some ⟨b0,o0,some sp⟩) 0 0:=ph;simp only[Sl.SY]at fu⊢;simp only[execOp,resolve,Sem.run_bind,Sem.run_pure,Result.andThen_ok,invoke,builtin,Builtin.copy_,aG8,aGf,aGx,dA,lj,ZD];simp only[aG0,aHi,aGA,Sem.run_bind,run_underlying hu,Result.andThen_ok,ZB,vK,fu,Sem.run_pure,aU];rfl
     |mk b o len cap=>
      have vL:=BZ (P:=P) new b o w lx;have dA:a.eval x=.slice (some ⟨b,o,none⟩) len cap:=ph;simp only[Sl.eO]at fu⊢;simp only[execOp,resolve,Sem.run_bind,Sem.run_pure,Result.andThen_ok,invoke,builtin,Builtin.copy_,aG8,aGf,aGx,dA,lj,ZD];simp only[aG0,aHi,aGA,Sem.run_bind,run_underlying hu,Result.andThen_ok,ZB,vK,fu,Sem.run_pure,aU,vL];rfl
    ·rw[hc]at h;exact h.elim
   ·exact h.elim
  ·exact h.elim
 ·exact h.elim
theorem PH(hT:uK P T)(hG:Z9 P G)(hR:gW n fr a)(hB:Bx n fr m)(o:Oper)(h:wr P T G n fr m o.dst o.type k o.op):DN P n a m o k:=by
 obtain⟨dst,op,ty,pos,after,guard⟩:=o;cases op with
 |alloc t=>exact Rq hT hR hB h
 |box t x=>exact Wk hR hB h
 |buildSlice t len parts=>exact Ir hT hR hB h
 |store t x y=>exact Rr hT hR hB h
 |makeSlice t x y=>exact JK hT hR hB h
 |makeFunc fn first captured=>exact Mb hR hB h
 |makeMap t r=>exact Oa hR hB h
 |lookup t x y ok=>exact PE hT hR hB h
 |mapUpdate t x y z=>exact JN hT hR hB h
 |call c=>
  obtain⟨callee,args,ts⟩:=c;cases callee with
  |builtin bi=>
   cases bi with
   |append=>exact PG hT hR hB h
   |copy=>exact UG hT hR hB h
   |_=>exact h.elim
  |value f=>exact UF hG hR hB h
  |invoke r mm=>exact h.elim
 |_=>exact h.elim
end
end Go.Vc
end
section
namespace Go.Vc
section
variable{P:Program}{ops:Array Oper}{Q:Exit->Act->World->Prop}{md:Region.Mode}{bf:Nat->Nat->Bool}
def td(P:Program)(md:Region.Mode)(ops:Array Oper)(Q:Exit->Act->World->Prop)(bf:Nat->Nat->Bool)(L:List (Nat×(World->Prop))):Nat->Array Bool->Act->World->Prop
 |0,bI,a,w=>Region.ready md ops bI=[]/\Q .normal a w
 |fO+1,bI,a,w=>
  (Region.ready md ops bI=[]->Q .normal a w)/\
  ∀i∈Region.ready md ops bI,wpOp P ops Q i (λa' w'=>(∀x∈L,bf i x.1=false->x.2 w->x.2 w')/\td P md ops Q bf L fO (bI.setIfInBounds i true) a' w') a w
theorem JO{L:List (Nat×(World->Prop))}:∀(fO:Nat)(bI:Array Bool)(a:Act)(w:World),td P md ops Q bf L fO bI a w->wpAny P md ops Q fO bI a w
 |0,_,_,_,h=>h
 |fO+1,_,_,_,h=>⟨h.1,λi hi=>wpOp_mono (λa' w' h'=>JO fO _ a' w' h'.2) (h.2 i hi)⟩
theorem Bq{L L':List (Nat×(World->Prop))}(hL:∀x∈L',x∈L):∀(fO:Nat)(bI:Array Bool)(a:Act)(w:World),td P md ops Q bf L fO bI a w->td P md ops Q bf L' fO bI a w
 |0,_,_,_,h=>h
 |fO+1,_,_,_,h=>⟨h.1,λi hi=>wpOp_mono (λa' w' h'=>⟨λx hx=>h'.1 x (hL x hx),Bq hL fO _ a' w' h'.2⟩) (h.2 i hi)⟩
def FT(bf:Nat->Nat->Bool)(bI:Array Bool):Prop:=∀i,bI.getD i false=true->∀r,bf i r=true->bI.getD r false=true
def aab(md:Region.Mode)(ops:Array Oper)(bf:Nat->Nat->Bool):Prop:=
 ∀(i r:Nat)(o:Oper),ops[i]? =some o->bf i r=true->∃e∈o.after,Region.binds md e=true/\(e.on=r\/bf e.on r=true)
theorem uO(mF:aab md ops bf){bI:Array Bool}(hc:FT bf bI){j:Nat}(hj:j∈Region.ready md ops bI){r:Nat}(hr:bf j r=true):bI.getD r false=true:=by
 obtain⟨_,o,ho,gZ⟩:=mem_ready.1 hj;obtain⟨e,he,hb,h⟩:=mF j r o ho hr;have h1:=gZ e he hb;rcases h with rfl|h
 ·exact h1
 ·exact hc _ h1 r h
theorem FT.set(mF:aab md ops bf){bI:Array Bool}(hc:FT bf bI){j:Nat}(hj:j∈Region.ready md ops bI):FT bf (bI.setIfInBounds j true):=by
 intro i hi r hr;by_cases hij:j=i
 ·subst hij;exact getD_set_true (uO mF hc hj hr)
 ·rw[getD_set_ne false hij]at hi;exact getD_set_true (hc i hi r hr)
theorem DP{i:Nat}{oi:Oper}{v:Value}{S:World->Prop}{L:List (Nat×(World->Prop))}(mF:aab md ops bf)(hi:ops[i]? =some oi)(XH:∀(j:Nat)(o:Oper) cs b,ops[j]? =some o->o.op≠.select cs b)
 (hQ:∀c a w,Q (.panic c) (a.put oi.dst v) w->Q (.panic c) a w):
 ∀(fO:Nat)(bI:Array Bool)(a:Act)(w:World),FT bf bI->
  (∀j oj,ops[j]? =some oj->j≠i->bI.getD j true=false->(∀e∈oj.after,Region.binds md e=true->e.on≠i)->oi.apart ops oj=true)->
  i∈Region.ready md ops bI->YieldsIf P ops S oi v a->S w->
  td P md ops Q bf ((i,S)::L) fO (bI.setIfInBounds i true) (a.put oi.dst v) w->td P md ops Q bf L (fO+1) bI a w:=by
 intro fO
 induction fO with
 |zero=>
  intro bI a w _ _ hr hy hS H
  refine⟨λh=>(by rw[h]at hr;cases hr),λj hj=>?_⟩
  by_cases ZE:j=i
  ·subst ZE;exact hy.wpOp hi hS ⟨λx _ _ h=>h,H⟩
  ·have:=ready_mono hj ZE
   rw[H.1]at this
   cases this
 |succ fO ih=>
  intro bI a w pt Qt hr hy hS H
  refine⟨λh=>(by rw[h]at hr;cases hr),λj hj=>?_⟩
  by_cases ZE:j=i
  ·subst ZE;exact hy.wpOp hi hS ⟨λx _ _ h=>h,Bq (λx hx=>aFT _ hx) _ _ _ _ H⟩
  ·have h1:=H.2 j (ready_mono hj ZE)
   obtain⟨XI,oj,hoj,gZ⟩:=mem_ready.1 hj
   have hun:bI.getD i false=false:=by
    have h0:=(mem_ready.1 hr).1;rcases aF1 i bI.size with h'|h'
    ·simp[h']at h0⊢;exact h0
    ·simp[aH0 h']
   have XE:∀e∈oj.after,Region.binds md e=true->e.on≠i:=λe he hb heq=>by
    have h1:=gZ e he hb;rw[heq,hun]at h1;cases h1
   have apv:bf j i=false:=by
    cases hb:bf j i
    ·rfl
    ·have:=uO mF pt hj hb;rw[hun]at this;cases this
   have h2:=wpOp_putIf hoj (Qt j oj hoj ZE XI XE) (λcs b=>XH i oi cs b hi) (λcs b=>XH j oj cs b hoj) hQ hy h1
   have afv:∀k ok,ops[k]? =some ok->k≠i->(bI.setIfInBounds j true).getD k true=false->
    (∀e∈ok.after,Region.binds md e=true->e.on≠i)->oi.apart ops ok=true:=λk ok hk hki hun LO=>by
    refine Qt k ok hk hki ?_ LO
    by_cases ZF:j=k
    ·subst ZF;exact XI
    ·rw[getD_set_ne true ZF]at hun;exact hun
   refine wpOp_mono (λa' w' h3=>⟨λx hx=>h3.2.1 x (aFT _ hx),
    ih (bI.setIfInBounds j true) a' w' (pt.set mF hj) afv (ready_mono hr (aHh ZE)) h3.1 (h3.2.1 (i,S) aF3 apv hS) ?_⟩) h2
   rw[Array.setIfInBounds_comm _ _ ZE]
   exact h3.2.2
theorem Rt{L:List (Nat×(World->Prop))}{fO:Nat}{bI:Array Bool}{a:Act}{w:World}(cx:Region.ready md ops bI≠[])
 (h:∀i∈Region.ready md ops bI,wpOp P ops Q i (λa' w'=>(∀x∈L,bf i x.1=false->x.2 w->x.2 w')/\td P md ops Q bf L fO (bI.setIfInBounds i true) a' w') a w):
 td P md ops Q bf L (fO+1) bI a w:=⟨λh0=>absurd h0 cx,h⟩
theorem PI{L:List (Nat×(World->Prop))}{bI:Array Bool}{a:Act}{w:World}(hr:Region.ready md ops bI=[])(h:Q .normal a w):
 ∀fO,td P md ops Q bf L fO bI a w
 |0=>⟨hr,h⟩
 |_+1=>⟨λ_=>h,by rw[hr];simp⟩
end
end Go.Vc
end
