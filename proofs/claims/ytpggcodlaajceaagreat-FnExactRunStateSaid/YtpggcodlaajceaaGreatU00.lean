/- Part of a proof, joined by a program: VcA VcB VcC VcD VcE VcF VcF2 VcG VcH VcI. -/
import Derived.KernelRfl
import Derived.Laws.Append
import Derived.Laws.Cells
import Derived.Laws.Entries
import Derived.Laws.IdiomCopy
import Derived.Orders
import Derived.Still
import Derived.Tactics
set_option linter.unusedVariables false
set_option linter.unusedSimpArgs false
section
/- Plain words for memory and for the values of a frame: a small symbolic domain for the verification conditions of Go code. -/
namespace Go.Vc
abbrev Mem:=Array Obj
def gcell (m:Mem) (b o:Nat):Option Value :=
 match m[b]? with
 | some (.cells c _ _)=>c[o]?
 | _=>none
def froz (m:Mem) (b o:Nat):Bool :=
 match m[b]? with
 | some (.cells _ _ (lo,hi))=>lo<=o && o < hi
 | _=>false
def scell (m:Mem) (b o:Nat) (v:Value):Mem :=
 m.modify b fun
  | .cells c e f=>.cells (c.setIfInBounds o v) e f
  | x=>x
theorem cell?_eq (w:World) (b o:Nat):w.cell? ⟨b,o,none⟩=gcell w.heap b o:=by
 simp only [World.cell?,gcell]
 cases h:w.heap[b]? with
 | none=>rfl
 | some x=>cases x <;> simp
theorem frozen?_eq (w:World) (b o:Nat):w.frozen? ⟨b,o,none⟩=froz w.heap b o:=by
 simp only [World.frozen?,froz]
 cases h:w.heap[b]? with
 | none=>rfl
 | some x=>cases x <;> simp
theorem qre (w:World) (b o:Nat) (v:Value):(w.setCell ⟨b,o,none⟩ v).heap=scell w.heap b o v:=by
 simp only [World.setCell,scell]
 congr 1
structure Same (w w':World):Prop where
 os:w'.os=w.os
 tape:w'.tape=w.tape
 output:w'.output=w.output
theorem Same.refl (w:World):Same w w:=⟨rfl,rfl,rfl⟩
theorem Same.trans {a b c:World} (h:Same a b) (k:Same b c):Same a c:=⟨k.os.trans h.os,k.tape.trans h.tape,k.output.trans h.output⟩
def q08 (P:Program) (f:FuncId) (args:List Value) (m:Mem) (K:Value->Mem->Prop):Prop :=
 ∀ w:World,w.heap=m->Calls P f args.toArray w fun e w'=>∃ v,e=.returned v/\Same w w'/\K v w'.heap
theorem q08.mono {P:Program} {f:FuncId} {args:List Value} {m:Mem} {K K':Value->Mem->Prop} (h:q08 P f args m K)
  (hk:∀ v m',K v m'->K' v m'):q08 P f args m K' :=
 fun w hw=>(h w hw).mono fun _ _ ⟨v,he,hs,hK⟩=>⟨v,he,hs,hk _ _ hK⟩
inductive Sl where
 | nil
 | mk (b o len cap:Nat)
 /-- without room,wherever it lies -/
 | emp (b o sp:Nat)
def Sl.v:Sl->Value
 | .nil=>.slice none 0 0
 | .mk b o l c=>.slice (some ⟨b,o,none⟩) l c
 | .emp b o sp=>.slice (some ⟨b,o,some sp⟩) 0 0
def Sl.len:Sl->Nat
 | .nil=>0
 | .mk _ _ l _=>l
 | .emp _ _ _=>0
def Sl.cap:Sl->Nat
 | .nil=>0
 | .mk _ _ _ c=>c
 | .emp _ _ _=>0
def Sl.blk:Sl->Nat
 | .nil=>0
 | .mk b _ _ _=>b
 | .emp b _ _=>b
def Sl.off:Sl->Nat
 | .nil=>0
 | .mk _ o _ _=>o
 | .emp _ o _=>o
@[simp] theorem Sl.len_emp (b o sp:Nat):(Sl.emp b o sp).len=0:=rfl
@[simp] theorem Sl.cap_emp (b o sp:Nat):(Sl.emp b o sp).cap=0:=rfl
@[simp] theorem Sl.len_nil:Sl.nil.len=0:=rfl
@[simp] theorem Sl.cap_nil:Sl.nil.cap=0:=rfl
@[simp] theorem Sl.blk_nil:Sl.nil.blk=0:=rfl
@[simp] theorem Sl.off_nil:Sl.nil.off=0:=rfl
@[simp] theorem Sl.len_mk (b o l c:Nat):(Sl.mk b o l c).len=l:=rfl
@[simp] theorem Sl.cap_mk (b o l c:Nat):(Sl.mk b o l c).cap=c:=rfl
@[simp] theorem Sl.blk_mk (b o l c:Nat):(Sl.mk b o l c).blk=b:=rfl
@[simp] theorem Sl.off_mk (b o l c:Nat):(Sl.mk b o l c).off=o:=rfl
def Sl.isNil:Sl->Bool
 | .nil=>true
 | .mk _ _ _ _=>false
 | .emp _ _ _=>false
@[simp] theorem Sl.isNil_nil:Sl.nil.isNil=true:=rfl
@[simp] theorem Sl.isNil_emp (b o sp:Nat):(Sl.emp b o sp).isNil=false:=rfl
@[simp] theorem Sl.isNil_mk (b o l c:Nat):(Sl.mk b o l c).isNil=false:=rfl
def Sl.base:Sl->Option Addr
 | .nil=>none
 | .mk b o _ _=>some ⟨b,o,none⟩
 | .emp b o sp=>some ⟨b,o,some sp⟩
theorem Sl.v_base (s:Sl):s.v=.slice s.base s.len s.cap:=by cases s <;> rfl
inductive Ce where
 | i (n:Int)
 | u (k:IntKind) (n:Int)
 | t (x:Bool)
 | s (x:Sl)
 | p (b o:Nat)
 | pn
 | fn (f:Fn) (first captured:Array Value)
 | fv (q:Fn × Array Value × Array Value)
 | nf
 | str (x:ByteArray)
 | mp (b:Nat)
 | mn
 | bp (k b o:Nat)
def Ce.v:Ce->Value
 | .i n=>.int .i64 n
 | .u k n=>.int k n
 | .t x=>.bool x
 | .s x=>x.v
 | .p b o=>.pointer (some ⟨b,o,none⟩)
 | .pn=>.pointer none
 | .fn f a c=>.func f a c
 | .fv q=>.func q.1 q.2.1 q.2.2
 | .nf=>.nilFunc
 | .str x=>.string x
 | .mp b=>.map (some b)
 | .mn=>.map none
 | .bp _ b o=>.pointer (some ⟨b,o,none⟩)
inductive AV where
 | c (x:Ce)
 | agg (l:List Ce)
def AV.v:AV->Value
 | .c x=>x.v
 | .agg l=>.agg (l.map Ce.v).toArray
inductive SV where
 | c (x:Ce)
 | tt
 | ff
 | agg (l:List Ce)
 | tup (l:List AV)
 | un
 | top
 | box (b e:Nat) (l:List Ce)
 | boxF (b e:Nat) (l:List Ce)
def SV.v:SV->Value
 | .c x=>x.v
 | .tt=>.bool true
 | .ff=>.bool false
 | .agg l=>.agg (l.map Ce.v).toArray
 | .tup l=>.tuple (l.map AV.v).toArray
 | .un=>undef
 | .top=>undef
 | .box _ _ _=>undef
 | .boxF _ _ _=>undef
def SV.Is:SV->Value->Prop
 | .top,_=>True
 | .box _ _ _,_=>True
 | .boxF _ _ _,_=>True
 | s,v=>v=s.v
def AV.sv:AV->SV
 | .c x=>.c x
 | .agg l=>.agg l
theorem AV.sv_v (x:AV):x.sv.v=x.v:=by cases x <;> rfl
abbrev Fr:=List (Nat × SV)
def fget:Fr->Nat->SV
 | [],_=>.top
 | (u,x) :: r,t=>bif Nat.beq u t then x else fget r t
def SV.nb:SV->SV
 | .box _ _ _=>.top
 | .boxF _ _ _=>.top
 | x=>x
def fput (fr:Fr) (d:Option Nat) (x:SV):Fr :=
 match d with
 | some d=>(d,x.nb) :: fr
 | none=>fr
theorem SV.nb_is {x:SV} {v:Value} (h:x.Is v):x.nb.Is v:=by
 cases x <;> first | exact h | trivial
theorem Ce.one (x:Ce):x.v.cells=#[x.v]:=by
 cases x with
 | s y=>cases y <;> rfl
 | _=>rfl
def constCe:Value->Option Ce
 | .int .i64 n=>some (.i n)
 | .int k n=>some (.u k n)
 | .bool x=>some (.t x)
 | .slice none 0 0=>some (.s .nil)
 | .pointer none=>some .pn
 | .nilFunc=>some .nf
 | .string x=>some (.str x)
 | _=>none
theorem qq2 {x:Value} {c:Ce} (h:constCe x=some c):c.v=x:=by
 unfold constCe at h
 split at h <;> simp at h <;> subst h <;> rfl
def constCes:List Value->Option (List Ce)
 | []=>some []
 | v :: vs=>match constCe v,constCes vs with
  | some c,some cs=>some (c :: cs)
  | _,_=>none
theorem qor:∀ {vs:List Value} {cs:List Ce},constCes vs=some cs->cs.map Ce.v=vs
 | [],_,h=>by simp [constCes] at h; subst h; rfl
 | v :: vs,cs,h=>by
  simp only [constCes] at h
  split at h
  ·rename_i c cs' h1 h2
   simp at h; subst h
   simp [qq2 h1,qor h2]
  ·simp at h
def constSV:Value->SV
 | .bool true=>.tt
 | .bool false=>.ff
 | .agg cs=>match constCes cs.toList with
  | some l=>.agg l
  | none=>.top
 | .tuple vs=>bif vs.toList.isEmpty then .un else .top
 | v=>match constCe v with
  | some c=>.c c
  | none=>.top
theorem qsr (x:Value):(constSV x).Is x:=by
 unfold constSV
 split
 ·rfl
 ·rfl
 ·rename_i cs
  split
  ·rename_i l hl
   show Value.agg cs=.agg (l.map Ce.v).toArray
   rw [qor hl]
  ·trivial
 ·rename_i vs
  cases h:vs.toList.isEmpty
  ·trivial
  ·show Value.tuple vs=undef
   have:vs=#[]:=by simpa using h
   rw [this]; rfl
 ·split
  ·rename_i c hc
   exact (qq2 hc).symm
  ·trivial
def ev (fr:Fr):Operand->SV
 | .tmp t=>(fget fr t).nb
 | .const v=>constSV v
 | .global g=>.c (.p g 0)
 | .func f=>.c (.fn (.func f) #[] #[])
structure Rel (n:Nat) (fr:Fr) (a:Act):Prop where
 size:a.tmps.size=n
 defers:a.defers=[]
 at':∀ t,(fget fr t).Is (a.tmps.getD t undef)
theorem Rel.ev {n:Nat} {fr:Fr} {a:Act} (h:Rel n fr a) (x:Operand):(ev fr x).Is (a.eval x):=by
 cases x with
 | tmp t=>exact SV.nb_is (h.at' t)
 | const v=>exact qsr v
 | global g=>rfl
 | func f=>rfl
theorem Rel.put {n:Nat} {fr:Fr} {a:Act} (h:Rel n fr a) {d:Option Nat} {x:SV} {v:Value} (hx:x.Is v) (hd:∀ t,d=some t->t < n) :
  Rel n (fput fr d x) (a.put d v):=by
 cases d with
 | none=>exact h
 | some d =>
  refine ⟨by simpa [Act.put] using h.size,h.defers,fun t=>?_⟩
  have hlt:d < a.tmps.size:=by rw [h.size]; exact hd d rfl
  simp only [fput,fget,Act.put]
  by_cases e:d=t
  ·subst e
   simp only [Nat.beq_refl,cond_true]
   simpa [hlt] using SV.nb_is hx
  ·have:Nat.beq d t=false:=by
    cases hb:Nat.beq d t
    ·rfl
    ·exact absurd (Nat.eq_of_beq_eq_true hb) e
   simp only [this,cond_false]
   have:=h.at' t
   simpa [Array.getElem?_setIfInBounds_ne e] using this
theorem Rel.cons {n:Nat} {fr:Fr} {a:Act} (h:Rel n fr a) (t:Nat) {x:SV} (hx:∀ v,x.Is v):Rel n ((t,x) :: fr) a:=by
 refine ⟨h.size,h.defers,fun u=>?_⟩
 simp only [fget]
 cases hb:Nat.beq t u
 ·exact h.at' u
 ·exact hx _
theorem Rel.top {n:Nat} {fr:Fr} {a:Act} (h:Rel n fr a) (t:Nat):Rel n ((t,.top) :: fr) a:=by
 refine ⟨h.size,h.defers,fun u=>?_⟩
 simp only [fget]
 cases hb:Nat.beq t u
 ·exact h.at' u
 ·trivial
end Go.Vc
end
section
/- The table of types, and the operations that only read: what each gives, and that it gives it. -/
namespace Go.Vc
inductive Sh where
 | I
 | U (k:IntKind)
 | T
 | S
 | P
 | F
 | M
 deriving DecidableEq
abbrev Sh.ty:Sh->Type
 | .I=>Int
 | .U _=>Int
 | .T=>Bool
 | .S=>Sl
 | .P=>Nat × Nat
 | .F=>Fn × Array Value × Array Value
 | .M=>Nat
abbrev Sh.mk:(s:Sh)->s.ty->Ce
 | .I,n=>.i n
 | .U k,n=>.u k n
 | .T,x=>.t x
 | .S,x=>.s x
 | .P,q=>.p q.1 q.2
 | .F,v=>.fv v
 | .M,b=>.mp b
def Sh.zero:Sh->Ce
 | .I=>.i 0
 | .U k=>.u k 0
 | .T=>.t false
 | .S=>.s .nil
 | .P=>.pn
 | .F=>.nf
 | .M=>.mn
inductive TK where
 | cell
 | slice (elem:Nat)
 | struct (offs:List (Nat × Nat))
 | tuple (ts:List Nat)
 | map (key elem:Nat)
structure TI where
 kind:TK
 sh:List Sh
 bytes:Nat
abbrev TT:=List (Nat × TI)
def tget:TT->Nat->Option TI
 | [],_=>none
 | (u,x) :: r,t=>bif Nat.beq u t then some x else tget r t
def shZeroB:Sh->Value->Bool
 | .I,.int .i64 0=>true
 | .U k,.int k' 0=>decide (k=k')
 | .T,.bool false=>true
 | .S,.slice none 0 0=>true
 | .P,.pointer none=>true
 | .F,.nilFunc=>true
 | .M,.map none=>true
 | _,_=>false
theorem qr8 {s:Sh} {v:Value} (h:shZeroB s v=true):v=s.zero.v:=by
 unfold shZeroB at h
 split at h <;> first | rfl | (simp at h; subst h; rfl) | simp at h
def zerosB:List Value->List Sh->Bool
 | [],[]=>true
 | v :: vs,s :: ss=>shZeroB s v && zerosB vs ss
 | _,_=>false
theorem qer:∀ {vs:List Value} {ss:List Sh},zerosB vs ss=true->vs=ss.map fun s=>s.zero.v
 | [],[],_=>rfl
 | v :: vs,s :: ss,h=>by
  simp only [zerosB,Bool.and_eq_true] at h
  simp [qr8 h.1,qer h.2]
 | [],_ :: _,h=>by simp [zerosB] at h
 | _ :: _,[],h=>by simp [zerosB] at h
def offsB:List Field->List (Nat × Nat)->Bool
 | [],[]=>true
 | f :: fs,(o,t) :: r=>Nat.beq f.offset o && Nat.beq f.type t && offsB fs r
 | _,_=>false
theorem qoc:∀ {fs:List Field} {os:List (Nat × Nat)},offsB fs os=true->fs.map (fun f=>(f.offset,f.type))=os
 | [],[],_=>rfl
 | f :: fs,(o,t) :: r,h=>by
  simp only [offsB,Bool.and_eq_true] at h
  simp [Nat.eq_of_beq_eq_true h.1.1,Nat.eq_of_beq_eq_true h.1.2,qoc h.2]
 | [],_ :: _,h=>by simp [offsB] at h
 | _ :: _,[],h=>by simp [offsB] at h
def plainB:TypeDesc->List Sh->Bool
 | .bool,[.T]=>true
 | .int .i64,[.I]=>true
 | .int k,[.U k']=>decide (k=k')
 | .pointer _,[.P]=>true
 | .func ..,[.F]=>true
 | _,_=>false
def isInfoB (i:TypeInfo) (ti:TI) (agg:Bool):Bool :=
 Nat.beq i.size ti.sh.length && Nat.beq i.bytes ti.bytes &&
 (match i.zero with
  | some (.agg cs)=>agg && zerosB cs.toList ti.sh
  | some z=>!agg && zerosB [z] ti.sh
  | none=>false)
def tiB (P:Program) (t:Nat) (ti:TI):Bool :=
 match ti.kind with
 | .tuple _=>true
 | .slice e=>match P.info? t,P.underlying t with
  | some i,some (.slice e')=>Nat.beq e e' && isInfoB i ti false
  | _,_=>false
 | .struct offs=>match P.info? t,P.underlying t with
  | some i,some (.struct fs)=>offsB fs.toList offs && isInfoB i ti true
  | _,_=>false
 | .map k e=>match P.info? t,P.underlying t with
  | some i,some (.map k' e')=>Nat.beq k k' && Nat.beq e e' && isInfoB i ti false
  | _,_=>false
 | .cell=>match P.info? t,P.underlying t with
  | some i,some d=>plainB d ti.sh && isInfoB i ti false
  | _,_=>false
def TOK (P:Program) (T:TT):Prop:=T.all (fun x=>tiB P x.1 x.2)=true
theorem qrc:∀ {T:TT} {t:Nat} {ti:TI},tget T t=some ti->(t,ti) ∈ T
 | [],_,_,h=>by simp [tget] at h
 | (u,x) :: r,t,ti,h=>by
  simp only [tget] at h
  cases hb:Nat.beq u t
  ·rw [hb] at h; exact List.mem_cons_of_mem _ (qrc h)
  ·rw [hb] at h
   have:=Nat.eq_of_beq_eq_true hb
   simp at h
   subst h; subst this
   exact List.mem_cons_self
theorem TOK.tiB {P:Program} {T:TT} (h:TOK P T) {t:Nat} {ti:TI} (hg:tget T t=some ti):tiB P t ti=true :=
 List.all_eq_true.1 h _ (qrc hg)
structure InfoOk (P:Program) (t:Nat) (ti:TI) (agg:Bool):Prop where
 info:∃ i,P.info? t=some i/\i.size=ti.sh.length/\i.bytes=ti.bytes /\
  ∃ z,i.zero=some z/\z.cells.toList=(ti.sh.map fun s=>s.zero.v)/\(agg=false->∀ cs,z ≠ .agg cs)
theorem q97 {P:Program} {t:Nat} {ti:TI} {i:TypeInfo} {agg:Bool} (hi:P.info? t=some i) (h:isInfoB i ti agg=true):InfoOk P t ti agg:=by
 simp only [isInfoB,Bool.and_eq_true] at h
 refine ⟨i,hi,Nat.eq_of_beq_eq_true h.1.1,Nat.eq_of_beq_eq_true h.1.2,?_⟩
 have h2:=h.2
 split at h2
 ·rename_i cs hz
  simp only [Bool.and_eq_true] at h2
  exact ⟨_,hz,by simpa [Value.cells] using qer h2.2,fun h0=>by rw [h0] at h2; simp at h2⟩
 ·rename_i z hne hz
  simp only [Bool.and_eq_true] at h2
  refine ⟨_,hz,?_,fun _ cs e=>hne cs (by rw [e])⟩
  have:=qer h2.2
  rw [← this]
  cases z <;> first | rfl | exact (hne _ rfl).elim
 ·simp at h2
theorem q3b {P:Program} {t:Nat} {e:Nat} {sh:List Sh} {b:Nat} (h:tiB P t ⟨.slice e,sh,b⟩=true):P.underlying t=some (.slice e)/\InfoOk P t ⟨.slice e,sh,b⟩ false:=by
 simp only [tiB] at h
 split at h
 ·rename_i i e' hi hu
  simp only [Bool.and_eq_true] at h
  have:=Nat.eq_of_beq_eq_true h.1
  subst this
  exact ⟨hu,q97 hi h.2⟩
 ·simp at h
theorem qcn {P:Program} {t:Nat} {k e:Nat} {sh:List Sh} {b:Nat} (h:tiB P t ⟨.map k e,sh,b⟩=true):P.underlying t=some (.map k e)/\InfoOk P t ⟨.map k e,sh,b⟩ false:=by
 simp only [tiB] at h
 split at h
 ·rename_i i k' e' hi hu
  simp only [Bool.and_eq_true] at h
  have h1:=Nat.eq_of_beq_eq_true h.1.1
  have h2:=Nat.eq_of_beq_eq_true h.1.2
  subst h1; subst h2
  exact ⟨hu,q97 hi h.2⟩
 ·simp at h
theorem q5j {P:Program} {t:Nat} {offs:List (Nat × Nat)} {sh:List Sh} {b:Nat} (h:tiB P t ⟨.struct offs,sh,b⟩=true) :
  (∃ fs,P.underlying t=some (.struct fs)/\fs.toList.map (fun f=>(f.offset,f.type))=offs)/\InfoOk P t ⟨.struct offs,sh,b⟩ true:=by
 simp only [tiB] at h
 split at h
 ·rename_i i fs hi hu
  simp only [Bool.and_eq_true] at h
  exact ⟨⟨fs,hu,qoc h.1⟩,q97 hi h.2⟩
 ·simp at h
theorem q8k {P:Program} {t:Nat} {sh:List Sh} {b:Nat} (h:tiB P t ⟨.cell,sh,b⟩=true) :
  (∃ d,P.underlying t=some d/\plainB d sh=true)/\InfoOk P t ⟨.cell,sh,b⟩ false:=by
 simp only [tiB] at h
 split at h
 ·rename_i i d hi hu
  simp only [Bool.and_eq_true] at h
  exact ⟨⟨d,hu,h.1⟩,q97 hi h.2⟩
 ·simp at h
def TI.agg (ti:TI):Bool:=match ti.kind with | .struct _=>true | _=>false
def TI.isT (ti:TI):Bool:=match ti.kind with | .tuple _=>true | _=>false
theorem q3f {P:Program} {T:TT} (hT:TOK P T) {t:Nat} {ti:TI} (hg:tget T t=some ti) (hn:ti.isT=false) (w:World) :
  (sizeOf t).run P w=.ok ti.sh.length w:=by
 have h:=hT.tiB hg
 obtain ⟨kind,sh,b⟩:=ti
 have:∃ i,P.info? t=some i/\i.size=sh.length:=by
  cases kind with
  | cell=>obtain ⟨_,⟨i,h1,h2,_⟩⟩:=q8k h; exact ⟨i,h1,h2⟩
  | slice e=>obtain ⟨_,⟨i,h1,h2,_⟩⟩:=q3b h; exact ⟨i,h1,h2⟩
  | map k e=>obtain ⟨_,⟨i,h1,h2,_⟩⟩:=qcn h; exact ⟨i,h1,h2⟩
  | struct o=>obtain ⟨_,⟨i,h1,h2,_⟩⟩:=q5j h; exact ⟨i,h1,h2⟩
  | tuple ts=>simp [TI.isT] at hn
 obtain ⟨i,h1,h2⟩:=this
 simp [sizeOf,typeInfo,h1,h2]
theorem qjn {P:Program} {T:TT} (hT:TOK P T) {t:Nat} {ti:TI} (hg:tget T t=some ti) (hn:ti.isT=false) :
  ∃ i,i.bytes=ti.bytes/\i.size=ti.sh.length/\(∀ w,(typeInfo t).run P w=.ok i w)/\P.info? t=some i:=by
 have h:=hT.tiB hg
 obtain ⟨kind,sh,b⟩:=ti
 have:∃ i,P.info? t=some i/\i.size=sh.length/\i.bytes=b:=by
  cases kind with
  | cell=>obtain ⟨_,⟨i,h1,h2,h3,_⟩⟩:=q8k h; exact ⟨i,h1,h2,h3⟩
  | slice e=>obtain ⟨_,⟨i,h1,h2,h3,_⟩⟩:=q3b h; exact ⟨i,h1,h2,h3⟩
  | map k e=>obtain ⟨_,⟨i,h1,h2,h3,_⟩⟩:=qcn h; exact ⟨i,h1,h2,h3⟩
  | struct o=>obtain ⟨_,⟨i,h1,h2,h3,_⟩⟩:=q5j h; exact ⟨i,h1,h2,h3⟩
  | tuple ts=>simp [TI.isT] at hn
 obtain ⟨i,h1,h2,h3⟩:=this
 exact ⟨i,h3,h2,fun w=>by simp [typeInfo,h1],h1⟩
theorem qb0 {P:Program} {T:TT} (hT:TOK P T) {t:Nat} {ti:TI} (hg:tget T t=some ti) (hn:ti.isT=false) :
  ∃ z,z.cells.toList=ti.sh.map (fun s=>s.zero.v)/\(∀ w,(zeroValue t).run P w=.ok z w)/\(ti.agg=false->∀ cs,z ≠ .agg cs):=by
 have h:=hT.tiB hg
 obtain ⟨kind,sh,b⟩:=ti
 have:∃ i,P.info? t=some i/\∃ z,i.zero=some z/\z.cells.toList=(sh.map fun s=>s.zero.v)/\((TI.mk kind sh b).agg=false->∀ cs,z ≠ .agg cs):=by
  cases kind with
  | cell=>obtain ⟨_,⟨i,h1,h2,h3,z,h4,h5,h6⟩⟩:=q8k h; exact ⟨i,h1,z,h4,h5,fun _=>h6 rfl⟩
  | slice e=>obtain ⟨_,⟨i,h1,h2,h3,z,h4,h5,h6⟩⟩:=q3b h; exact ⟨i,h1,z,h4,h5,fun _=>h6 rfl⟩
  | map k e=>obtain ⟨_,⟨i,h1,h2,h3,z,h4,h5,h6⟩⟩:=qcn h; exact ⟨i,h1,z,h4,h5,fun _=>h6 rfl⟩
  | struct o=>obtain ⟨_,⟨i,h1,h2,h3,z,h4,h5,h6⟩⟩:=q5j h; exact ⟨i,h1,z,h4,h5,fun h=>by simp [TI.agg] at h⟩
  | tuple ts=>simp [TI.isT] at hn
 obtain ⟨i,h1,z,h2,h3,h4⟩:=this
 exact ⟨z,h3,fun w=>by simp [zeroValue,typeInfo,h1,h2],h4⟩
theorem qq6 {P:Program} {T:TT} (hT:TOK P T) {t:Nat} {ti:TI} (hg:tget T t=some ti) (hn:ti.isT=false) (w:World) :
  (isAgg t).run P w=.ok ti.agg w:=by
 have h:=hT.tiB hg
 obtain ⟨kind,sh,b⟩:=ti
 cases kind with
 | cell =>
  obtain ⟨⟨d,hd,hp⟩,_⟩:=q8k h
  unfold plainB at hp
  split at hp <;> first | (simp at hp; done) | simp [isAgg,run_underlying hd,TI.agg]
 | slice e=>obtain ⟨hd,_⟩:=q3b h; simp [isAgg,run_underlying hd,TI.agg]
 | map k e=>obtain ⟨hd,_⟩:=qcn h; simp [isAgg,run_underlying hd,TI.agg]
 | struct o=>obtain ⟨⟨fs,hd,_⟩,_⟩:=q5j h; simp [isAgg,run_underlying hd,TI.agg]
 | tuple ts=>simp [TI.isT] at hn
end Go.Vc
end
section
/- The operations that only read memory, or none: what each asks and what it gives; that it runs so. -/
namespace Go.Vc
def boolOf:SV->Option Bool
 | .tt=>some true
 | .ff=>some false
 | .c (.t x)=>some x
 | _=>none
def SV.known:SV->Bool
 | .top=>false
 | .box _ _ _=>false
 | .boxF _ _ _=>false
 | _=>true
def w64 (n:Int):Int:=IntKind.i64.wrap n
def nth {α:Type}:List α->Nat->Option α
 | [],_=>none
 | x :: _,0=>some x
 | _ :: r,n+1=>nth r n
theorem nth_eq {α:Type}:∀ (l:List α) (n:Nat),nth l n=l[n]?
 | [],_=>by simp [nth]
 | x :: _,0=>by simp [nth]
 | _ :: r,n+1=>by simp [nth,nth_eq r n]
def ldC (m:Mem) (b o:Nat):Nat->List Sh->(List Ce->Prop)->Prop
 | _,[],k=>k []
 | j,s :: r,k=>∃ x:s.ty,gcell m b (o+j)=some (s.mk x).v/\ldC m b o (j+1) r fun l=>k (s.mk x :: l)
def binI (op:BinOp) (a b:Int) (k:SV->Prop):Prop :=
 match op with
 | .add=>k (.c (.i (w64 (a+b))))
 | .sub=>k (.c (.i (w64 (a - b))))
 | .mul=>k (.c (.i (w64 (a*b))))
 | .quo=>b ≠ 0/\k (.c (.i (w64 (a.tdiv b))))
 | .rem=>b ≠ 0/\k (.c (.i (a.tmod b)))
 | .eql=>k (.c (.t (a == b)))
 | .neq=>k (.c (.t (a != b)))
 | .lss=>k (.c (.t (decide (a < b))))
 | .leq=>k (.c (.t (decide (a<=b))))
 | .gtr=>k (.c (.t (decide (a > b))))
 | .geq=>k (.c (.t (decide (a ≥ b))))
 | _=>False
def binB (op:BinOp) (a b:Bool) (k:SV->Prop):Prop :=
 match op with
 | .eql=>k (.c (.t (a == b)))
 | .neq=>k (.c (.t (!(a == b))))
 | _=>False
def nilB (op:BinOp) (s:Sl) (k:SV->Prop):Prop :=
 match op with
 | .eql=>k (.c (.t s.isNil))
 | .neq=>k (.c (.t (!s.isNil)))
 | _=>False
def unO (op:UnOp) (x:SV) (k:SV->Prop):Prop :=
 match op,x with
 | .not,.tt=>k .ff
 | .not,.ff=>k .tt
 | .not,.c (.t b)=>k (.c (.t (!b)))
 | .neg,.c (.i n)=>k (.c (.i (w64 (0 - n))))
 | _,_=>False
def Sl.cut (x:Sl) (lo hi size:Nat):Sl :=
 match x with
 | .nil=>.nil
 | .mk b o _ c=>.mk b (if c=lo then o else o+lo*size) (hi - lo) (c - lo)
 | .emp b o sp=>.emp b o sp
def SV.cells:SV->Option (List Ce)
 | .c x=>some [x]
 | .tt=>some [.t true]
 | .ff=>some [.t false]
 | .agg l=>some l
 | _=>none
def setAt (l:List Ce) (off:Nat) (new:List Ce):List Ce :=
 match off,l with
 | 0,l=>match new,l with
  | [],l=>l
  | n :: new,_ :: l=>n :: setAt l 0 new
  | _ :: _,[]=>[]
 | off+1,x :: l=>x :: setAt l off new
 | _+1,[]=>[]
termination_by structural l
def cfill (T:TT) (fr:Fr) (offs:List (Nat × Nat)):List Ce->List (Nat × Operand)->(List Ce->Prop)->Prop
 | cs,[],k=>k cs
 | cs,(i,x) :: r,k =>
  match nth offs i,(ev fr x).cells with
  | some (off,t),some new =>
   match tget T t with
   | some ti=>bif !ti.isT && Nat.beq new.length ti.sh.length && Nat.ble (off+new.length) cs.length then cfill T fr offs (setAt cs off new) r k else False
   | none=>False
  | _,_=>False
def offsIn (T:TT):List (Nat × Nat)->Bool
 | []=>true
 | (_,t) :: r=>(match tget T t with | some ti=>!ti.isT | none=>false) && offsIn T r
def optI (fr:Fr) (x:Option Operand) (d:Int) (k:Int->Prop):Prop :=
 match x with
 | none=>k d
 | some x=>match ev fr x with
  | .c (.i n)=>k n
  | _=>False
def idxC (T:TT) (t:Nat) (s:Sl) (n:Int) (k:SV->Prop):Prop :=
 match tget T t with
 | some ⟨.slice e,_,_⟩=>match tget T e with
  | some te=>bif te.isT then False else 0<=n/\n < (s.len:Int)/\k (.c (.p s.blk (s.off+n.toNat*te.sh.length)))
  | none=>False
 | _=>False
def loadC (T:TT) (m:Mem) (t b o:Nat) (k:SV->Prop):Prop :=
 match tget T t with
 | some ⟨.struct _,sh,_⟩=>ldC m b o 0 sh fun l=>k (.agg l)
 | some ⟨.cell,[s],_⟩=>∃ x:s.ty,gcell m b o=some (s.mk x).v/\k (.c (s.mk x))
 | some ⟨.slice _,[_],_⟩=>∃ x:Sl,gcell m b o=some x.v/\k (.c (.s x))
 | _=>False
def sliceC (T:TT) (fr:Fr) (t:Nat) (s:Sl) (lo hi:Option Operand) (k:SV->Prop):Prop :=
 match tget T t with
 | some ⟨.slice e,_,_⟩=>match tget T e with
  | some te=>bif te.isT then False else
   optI fr lo 0 fun l=>optI fr hi (s.len:Int) fun h=>0<=l/\l<=h/\h<=(s.cap:Int)/\k (.c (.s (s.cut l.toNat h.toNat te.sh.length)))
  | none=>False
 | _=>False
def fieldC (T:TT) (t f:Nat) (l:List Ce) (k:SV->Prop):Prop :=
 match tget T t with
 | some ⟨.struct offs,_,_⟩=>match nth offs f with
  | some (off,u)=>match tget T u with
   | some tu=>bif tu.isT then False else bif tu.agg then k (.agg ((l.drop off).take tu.sh.length)) else (match nth l off with | some x=>k (.c x) | none=>False)
   | none=>False
  | none=>False
 | _=>False
def fieldAC (T:TT) (t f o:Nat) (mk:Nat->SV) (k:SV->Prop):Prop :=
 match tget T t with
 | some ⟨.struct offs,_,_⟩=>match nth offs f with
  | some (off,u)=>match tget T u with
   | some tu=>bif tu.isT || Nat.beq tu.sh.length 0 then False else k (mk (o+off))
   | none=>False
  | none=>False
 | _=>False
def eqT (b' b:Nat) (k:Prop):Prop:=b'=b/\k
theorem qtz (b:Nat) (k:Prop):eqT b b k=k:=by simp [eqT]
def takeN:List Ce->Nat->Nat->Option (List Ce)
 | _,_,0=>some []
 | l,o,n+1=>match nth l o,takeN l (o+1) n with
  | some c,some r=>some (c :: r)
  | _,_=>none
def boxLd (T:TT) (t:Nat) (cs:List Ce) (o:Nat) (k:SV->Prop):Prop :=
 match tget T t with
 | some ⟨.struct _,sh,_⟩=>match takeN cs o sh.length with
  | some l=>k (.agg l)
  | none=>False
 | some ⟨.cell,[_],_⟩=>match nth cs o with
  | some c=>k (.c c)
  | none=>False
 | some ⟨.slice _,[_],_⟩=>match nth cs o with
  | some c=>k (.c c)
  | none=>False
 | some ⟨.map _ _,[_],_⟩=>match nth cs o with
  | some c=>k (.c c)
  | none=>False
 | _=>False
def bltC (T:TT) (fr:Fr) (bi:Builtin) (ts:List Nat) (xs:List Operand) (k:SV->Prop):Prop :=
 match bi,ts,xs with
 | .len,[t],[x]=>match tget T t,ev fr x with
  | some ⟨.slice _,_,_⟩,.c (.s s)=>k (.c (.i (s.len:Int)))
  | _,_=>False
 | .max,_,[x,y]=>match ev fr x,ev fr y with
  | .c (.i a),.c (.i b)=>k (.c (.i (if b > a then b else a)))
  | _,_=>False
 | .min,_,[x,y]=>match ev fr x,ev fr y with
  | .c (.i a),.c (.i b)=>k (.c (.i (if b < a then b else a)))
  | _,_=>False
 | _,_,_=>False
def rd (T:TT) (fr:Fr) (m:Mem) (k:SV->Prop):Op->Prop
 | .move x | .assign x=>k (ev fr x)
 | .pick c a b=>match ev fr c with
  | .tt=>k (ev fr a)
  | .ff=>k (ev fr b)
  | .c (.t x)=>match boolOf (ev fr a),boolOf (ev fr b) with
   | some y,some z=>k (.c (.t (bif x then y else z)))
   | _,_=>False
  | _=>False
 | .nilCheck x=>match ev fr x with
  | .c (.p b o)=>k (.c (.p b o))
  | .c (.bp q b o)=>k (.c (.bp q b o))
  | .c (.fn (.func f) a c)=>k (.c (.fn (.func f) a c))
  | .c (.fv q)=>∃ g,q.1=.func g/\k (.c (.fv q))
  | _=>False
 | .binOp op t x y _=>match ev fr x,ev fr y with
  | .c (.i a),.c (.i b)=>binI op a b k
  | .c (.s s),.c (.s .nil)=>match tget T t with
   | some ⟨.slice _,_,_⟩=>nilB op s k
   | _=>False
  | sx,sy=>match tget T t,boolOf sx,boolOf sy with
   | some ⟨.cell,[.T],_⟩,some a,some b=>binB op a b k
   | _,_,_=>False
 | .unOp op _ x=>unO op (ev fr x) k
 | .fieldAddr t x f=>match ev fr x with
  | .c (.p b o)=>fieldAC T t f o (fun o=>.c (.p b o)) k
  | .c (.bp q b o)=>fieldAC T t f o (fun o=>.c (.bp q b o)) k
  | _=>False
 | .field t x f=>match ev fr x with
  | .agg l=>fieldC T t f l k
  | _=>False
 | .indexAddr t x i=>match ev fr x,ev fr i with
  | .c (.s s),.c (.i n)=>idxC T t s n k
  | _,_=>False
 | .load t x=>match ev fr x with
  | .c (.p b o)=>loadC T m t b o k
  | .c (.bp q b o)=>match fget fr q with
   | .box b' _ cs=>eqT b' b (boxLd T t cs o k)
   | .boxF b' _ cs=>eqT b' b (boxLd T t cs o k)
   | _=>loadC T m t b o k
  | _=>False
 | .extract x i=>match ev fr x with
  | .tup l=>match nth l i with
   | some y=>k y.sv
   | none=>False
  | _=>False
 | .slice t x lo hi none=>match ev fr x with
  | .c (.s s)=>sliceC T fr t s lo hi k
  | _=>False
 | .build t parts=>match tget T t with
  | some ⟨.struct offs,sh,_⟩=>bif offsIn T offs then cfill T fr offs (sh.map Sh.zero) parts.toList fun l=>k (.agg l) else False
  | _=>False
 | .call ⟨.builtin bi,args,ts⟩=>bltC T fr bi ts.toList args.toList k
 | _=>False
def boxAt (fr:Fr) (q b e:Nat) (l:List Ce):Prop:=fget fr q=.box b e l \/ fget fr q=.boxF b e l
structure Bx (n:Nat) (fr:Fr) (m:Mem):Prop where
 blk:∀ q b e l,boxAt fr q b e l->m[b]?=some (.cells (l.map Ce.v).toArray e)
 dist:∀ q q' b e l b' e' l',q ≠ q'->boxAt fr q b e l->boxAt fr q' b' e' l'->b ≠ b'
 key:∀ q b e l,boxAt fr q b e l->n<=q
def rdA (T:TT) (fr:Fr):Op->List (Nat × Nat)
 | .load t x=>match ev fr x,tget T t with
  | .c (.p b o),some ti=>(List.range ti.sh.length).map fun j=>(b,o+j)
  | .c (.bp _ b o),some ti=>(List.range ti.sh.length).map fun j=>(b,o+j)
  | _,_=>[]
 | _=>[]
end Go.Vc
end
section
/- That the reading operations run as 'rd' says. -/
namespace Go.Vc
theorem SV.Is.eq {s:SV} {v:Value} (h:s.Is v) (hk:s.known=true):v=s.v:=by
 cases s <;> first | exact h | simp [SV.known] at hk
theorem is_v (s:SV):s.Is s.v:=by cases s <;> first | rfl | trivial
theorem Rel.eq {n:Nat} {fr:Fr} {a:Act} (h:Rel n fr a) {x:Operand} {s:SV} (he:Vc.ev fr x=s) (hk:s.known=true):a.eval x=s.v:=by
 have:=h.ev x
 rw [he] at this
 exact this.eq hk
theorem qd4 {s:SV} {b:Bool} (h:boolOf s=some b):s.known=true/\s.v=.bool b:=by
 unfold boolOf at h
 split at h <;> simp_all [SV.known,SV.v,Ce.v]
theorem Rel.evB {n:Nat} {fr:Fr} {a:Act} (h:Rel n fr a) {x:Operand} {b:Bool} (hb:boolOf (Vc.ev fr x)=some b):a.eval x=.bool b:=by
 rw [h.eq rfl (qd4 hb).1,(qd4 hb).2]
theorem qa9 (b o n:Nat):(⟨b,o,none⟩:Addr).add n=⟨b,o+n,none⟩:=by
 unfold Addr.add
 split
 ·rename_i h; subst h; rfl
 ·rfl
theorem qee:∀ (l:List Ce) (off:Nat) (new:List Ce) (i:Nat),off+new.length<=l.length ->
  (setAt l off new)[i]?=if off<=i/\i < off+new.length then new[i - off]? else l[i]?
 | [],0,[],i,_=>by simp [setAt]
 | [],0,_ :: _,_,h=>by simp at h
 | [],_+1,_,_,h=>by simp at h
 | x :: l,0,[],i,_=>by simp [setAt]
 | x :: l,0,n :: new,i,h=>by
  simp only [setAt]
  cases i with
  | zero=>simp
  | succ i =>
   have:=qee l 0 new i (by simp at h; omega)
   simp only [List.getElem?_cons_succ,this]
   simp
 | x :: l,off+1,new,i,h=>by
  simp only [setAt]
  cases i with
  | zero=>simp
  | succ i =>
   have:=qee l off new i (by simp at h; omega)
   simp only [List.getElem?_cons_succ,this]
   have e:(i+1 - (off+1))=i - off:=by omega
   simp only [e]
   congr 1
   simp; omega
theorem qq4 (new:List Value):∀ (k off:Nat) (cells:Array Value) (i:Nat),
  ((new.zipIdx k).foldl (fun (cs:Array Value) (p:Value × Nat)=>cs.setIfInBounds (off+p.2) p.1) cells)[i]? =
   if off+k<=i/\i < off+k+new.length/\i < cells.size then new[i - (off+k)]? else cells[i]?:=by
 induction new with
 | nil=>intro k off cells i; simp; intro h; omega
 | cons v new ih =>
  intro k off cells i
  simp only [List.zipIdx_cons,List.foldl_cons,ih,Array.size_setIfInBounds,List.length_cons]
  by_cases h1:i=off+k
  ·subst h1
   by_cases h2:off+k < cells.size
   ·simp [h2]; try omega
   ·simp [h2]; try omega
  ·have:¬ (off+k=i):=fun e=>h1 e.symm
   rw [Array.getElem?_setIfInBounds_ne this]
   by_cases h3:off+k<=i/\i < off+k+(new.length+1)/\i < cells.size
   ·rw [if_pos h3,if_pos (by omega)]
    have:i - (off+k)=(i - (off+(k+1)))+1:=by omega
    rw [this,List.getElem?_cons_succ]
   ·rw [if_neg h3,if_neg (by omega)]
theorem q6w {s:SV} {l:List Ce} (h:s.cells=some l):s.known=true/\s.v.cells=(l.map Ce.v).toArray:=by
 cases s with
 | c x=>simp [SV.cells] at h; subst h; exact ⟨rfl,by simp [SV.v,Ce.one]⟩
 | tt=>simp [SV.cells] at h; subst h; exact ⟨rfl,rfl⟩
 | ff=>simp [SV.cells] at h; subst h; exact ⟨rfl,rfl⟩
 | agg l'=>simp [SV.cells] at h; subst h; exact ⟨rfl,rfl⟩
 | tup _=>simp [SV.cells] at h
 | un=>simp [SV.cells] at h
 | top=>simp [SV.cells] at h
 | box _ _ _=>simp [SV.cells] at h
 | boxF _ _ _=>simp [SV.cells] at h
end Go.Vc
end
section
/- That the reading operations run as 'rd' says: the theorem. -/
namespace Go.Vc
variable {P:Program} {T:TT}
def Gives (P:Program) (T:TT) (fr:Fr) (m:Mem) (a:Act) (o:Oper) (k:SV->Prop):Prop :=
 ∃ x v,k x/\x.Is v/\∀ w:World,(∀ q ∈ rdA T fr o.op,gcell w.heap q.1 q.2=gcell m q.1 q.2)->(execOp a.eval o).run P w=.ok (.value v) w
section
variable {n:Nat} {fr:Fr} {a:Act} {m:Mem} {k:SV->Prop} {dst:Option Tmp} {ty:TypeId} {pos:String} {after:Array Edge} {guard:Option (Nat × Bool)}
theorem qtm (hR:Rel n fr a) {x:Operand} (h:k (ev fr x)):Gives P T fr m a ⟨dst,.move x,ty,pos,after,guard⟩ k :=
 ⟨_,_,h,hR.ev x,fun w _=>by simp [execOp]⟩
theorem gives_ev' (hR:Rel n fr a) {x:Operand} (h:k (ev fr x)):Gives P T fr m a ⟨dst,.assign x,ty,pos,after,guard⟩ k :=
 ⟨_,_,h,hR.ev x,fun w _=>by simp [execOp]⟩
theorem qsw (hR:Rel n fr a) {c x y:Operand} (h:rd T fr m k (.pick c x y)):Gives P T fr m a ⟨dst,.pick c x y,ty,pos,after,guard⟩ k:=by
 simp only [rd] at h
 split at h
 ·rename_i hc
  exact ⟨_,_,h,hR.ev x,fun w _=>by simp [execOp,hR.eq hc rfl,SV.v,asBool]⟩
 ·rename_i hc
  exact ⟨_,_,h,hR.ev y,fun w _=>by simp [execOp,hR.eq hc rfl,SV.v,asBool]⟩
 ·rename_i b hc
  split at h
  ·rename_i y' z' hy hz
   refine ⟨_,_,h,is_v _,fun w _=>?_⟩
   simp [execOp,hR.eq hc rfl,SV.v,Ce.v,asBool,hR.evB hy,hR.evB hz]
   try (cases b <;> rfl)
  ·exact h.elim
 ·exact h.elim
theorem qp7 (hR:Rel n fr a) {x:Operand} (h:rd T fr m k (.nilCheck x)):Gives P T fr m a ⟨dst,.nilCheck x,ty,pos,after,guard⟩ k:=by
 simp only [rd] at h
 split at h
 ·rename_i b o hc
  exact ⟨_,_,h,is_v _,fun w _=>by simp [execOp,hR.eq hc rfl,SV.v,Ce.v]⟩
 ·rename_i q b o hc
  exact ⟨_,_,h,is_v _,fun w _=>by simp [execOp,hR.eq hc rfl,SV.v,Ce.v]⟩
 ·rename_i f a' c' hc
  exact ⟨_,_,h,is_v _,fun w _=>by simp [execOp,hR.eq hc rfl,SV.v,Ce.v]⟩
 ·rename_i q hc
  obtain ⟨g,hg,hk⟩:=h
  exact ⟨_,_,hk,is_v _,fun w _=>by simp [execOp,hR.eq hc rfl,SV.v,Ce.v,hg]⟩
 ·exact h.elim
theorem quf {op:BinOp} {t:TypeId} {x y:Int} (h:binI op x y k):∃ s v,k s/\s.Is v/\∀ w:World,(binOp op t (.int .i64 x) (.int .i64 y)).run P w=.ok v w:=by
 cases op <;> simp only [binI] at h
 case quo=>exact ⟨_,_,h.2,is_v _,fun w=>by simp [binOp,Op.intDiv,h.1,SV.v,Ce.v,w64]⟩
 case rem=>exact ⟨_,_,h.2,is_v _,fun w=>by simp [binOp,Op.intDiv,h.1,SV.v,Ce.v]⟩
 all_goals exact ⟨_,_,h,is_v _,fun w=>by simp [binOp,Op.intArith,Op.intCmp,SV.v,Ce.v,w64]⟩
theorem qrv (op:BinOp) (t:TypeId) (ox oy:Operand) (k':IntKind) (x:Int) (y:Value) (w:World):(eqGuard op t ox oy (.int k' x) y).run P w=.ok () w:=by
 cases op <;> simp [eqGuard]
theorem qr2 (op:BinOp) (t:TypeId) (ox oy:Operand) (x:Bool) (y:Value) (w:World):(eqGuard op t ox oy (.bool x) y).run P w=.ok () w:=by
 cases op <;> simp [eqGuard]
theorem qsx {t:TypeId} (hd:P.underlying t=some .bool) (x y:Bool) (w:World):(Op.equal t (.bool x) (.bool y)).run P w=.ok (x == y) w:=by
 have:Op.equal t (.bool x) (.bool y)=Op.equalIn (9999+1) t (.bool x) (.bool y):=rfl
 rw [this]
 generalize 9999=d
 simp [Op.equalIn,run_underlying hd]
theorem qp0 {t e:TypeId} (hd:P.underlying t=some (.slice e)) (s:Sl) (w:World):(Op.equal t s.v (.slice none 0 0)).run P w=.ok s.isNil w:=by
 have:Op.equal t s.v (.slice none 0 0)=Op.equalIn (9999+1) t s.v (.slice none 0 0):=rfl
 rw [this]
 generalize 9999=d
 cases s <;> simp [Op.equalIn,run_underlying hd,Sl.v]
theorem qqn (op:BinOp) (t:TypeId) (ox oy:Operand) (s:Sl) (y:Value) (w:World):(eqGuard op t ox oy s.v y).run P w=.ok () w:=by
 cases s <;> cases op <;> simp [eqGuard,Sl.v]
theorem qs9 (hT:TOK P T) (hR:Rel n fr a) {op:BinOp} {t yt:TypeId} {x y:Operand} (h:rd T fr m k (.binOp op t x y yt)):Gives P T fr m a ⟨dst,.binOp op t x y yt,ty,pos,after,guard⟩ k:=by
 simp only [rd] at h
 split at h
 ·rename_i p q hx hy
  obtain ⟨s,v,hk,his,hrun⟩:=quf (P:=P) (t:=t) h
  refine ⟨s,v,hk,his,fun w _=>?_⟩
  simp only [execOp,hR.eq hx rfl,hR.eq hy rfl,SV.v,Ce.v,Sem.run_bind]
  simp [qrv,hrun]
 ·rename_i s hx hy
  split at h
  ·rename_i e sh by' ht
   have hu:=(q3b (hT.tiB ht)).1
   have hx':a.eval x=s.v:=hR.eq hx rfl
   have hy':a.eval y=.slice none 0 0:=hR.eq hy rfl
   cases op <;> simp only [nilB] at h
   all_goals
    first
    | exact h.elim
    | exact ⟨_,_,h,is_v _,fun w _=>by
      have hb:∀ o:BinOp,o=.eql \/ o=.neq->binOp o t s.v (.slice none 0 0)=(if o=.eql then (do pure (.bool (← Op.equal t s.v (.slice none 0 0)))) else (do pure (.bool (!(← Op.equal t s.v (.slice none 0 0)))))):=by
       intro o ho
       rcases ho with rfl | rfl <;> cases s <;> rfl
      simp only [execOp,hx',hy',Sem.run_bind,qqn,Result.andThen_ok]
      rw [hb _ (by simp)]
      simp [qp0 hu,SV.v,Ce.v]⟩
  ·exact h.elim
 ·split at h
  ·rename_i p q hti hx hy
   obtain ⟨⟨d,hd,hp⟩,_⟩:=q8k (hT.tiB hti)
   have hdb:d=.bool:=by
    cases d <;> simp_all [plainB]
   subst hdb
   cases op <;> simp only [binB] at h
   all_goals
    first
    | exact h.elim
    | exact ⟨_,_,h,is_v _,fun w _=>by
      simp only [execOp,hR.evB hx,hR.evB hy,Sem.run_bind,qr2,Result.andThen,binOp,qsx hd]
      rfl⟩
  ·exact h.elim
theorem qsn (hR:Rel n fr a) {op:UnOp} {t:TypeId} {x:Operand} (h:rd T fr m k (.unOp op t x)):Gives P T fr m a ⟨dst,.unOp op t x,ty,pos,after,guard⟩ k:=by
 simp only [rd] at h
 generalize hx:ev fr x=sx at h
 unfold unO at h
 split at h
 ·exact ⟨_,_,h,is_v _,fun w _=>by simp [execOp,hR.eq hx rfl,SV.v,Op.unary]⟩
 ·exact ⟨_,_,h,is_v _,fun w _=>by simp [execOp,hR.eq hx rfl,SV.v,Op.unary]⟩
 ·exact ⟨_,_,h,is_v _,fun w _=>by simp [execOp,hR.eq hx rfl,SV.v,Ce.v,Op.unary]⟩
 ·exact ⟨_,_,h,is_v _,fun w _=>by simp [execOp,hR.eq hx rfl,SV.v,Ce.v,Op.unary,Op.intArith,w64]⟩
 ·exact h.elim
theorem qhh (hT:TOK P T) (hR:Rel n fr a) {t:TypeId} {x:Operand} {f b o:Nat} {mk:Nat->SV} (hmk:∀ o,(mk o).v=.pointer (some ⟨b,o,none⟩)) (hx:a.eval x=.pointer (some ⟨b,o,none⟩)) (h:fieldAC T t f o mk k) :
  Gives P T fr m a ⟨dst,.fieldAddr t x f,ty,pos,after,guard⟩ k:=by
 unfold fieldAC at h
 split at h
 ·rename_i offs sh by' ht
  split at h
  ·rename_i off u hoff
   split at h
   ·rename_i tu hu
    cases hc:(tu.isT || Nat.beq tu.sh.length 0)
    ·rw [hc] at h
     simp only [Bool.or_eq_false_iff] at hc
     obtain ⟨⟨fs,hfs,hmap⟩,_⟩:=q5j (hT.tiB ht)
     rw [nth_eq,← hmap,List.getElem?_map] at hoff
     obtain ⟨fl,hfl,he⟩:=Option.map_eq_some_iff.1 hoff
     simp only [Prod.mk.injEq] at he
     obtain ⟨rfl,rfl⟩:=he
     have hsz:=fun w=>q3f hT hu hc.1 w
     have hne:tu.sh.length ≠ 0:=fun e=>by rw [e] at hc; simp at hc
     refine ⟨_,_,h,is_v _,fun w _=>?_⟩
     have hfl':fs[f]?=some fl:=by simpa using hfl
     rw [hmk]
     simp [execOp,Instr.fieldAt,hx,run_underlying hfs,hfl',Instr.sureAddr,fieldPlace,hsz,hne,qa9]
    ·rw [hc] at h; exact h.elim
   ·exact h.elim
  ·exact h.elim
 ·exact h.elim
theorem qnk (hT:TOK P T) (hR:Rel n fr a) {t:TypeId} {x:Operand} {f:Nat} (h:rd T fr m k (.fieldAddr t x f)):Gives P T fr m a ⟨dst,.fieldAddr t x f,ty,pos,after,guard⟩ k:=by
 simp only [rd] at h
 split at h
 ·rename_i b o hx
  exact qhh hT hR (fun o=>rfl) (hR.eq hx rfl) h
 ·rename_i q b o hx
  exact qhh hT hR (fun o=>rfl) (hR.eq hx rfl) h
 ·exact h.elim
theorem qs5 (hT:TOK P T) (hR:Rel n fr a) {t:TypeId} {x:Operand} {f:Nat} (h:rd T fr m k (.field t x f)):Gives P T fr m a ⟨dst,.field t x f,ty,pos,after,guard⟩ k:=by
 simp only [rd] at h
 split at h
 ·rename_i l hx
  unfold fieldC at h
  split at h
  ·rename_i offs sh by' ht
   split at h
   ·rename_i off u hoff
    split at h
    ·rename_i tu hu
     cases hc:tu.isT
     ·rw [hc] at h
      obtain ⟨⟨fs,hfs,hmap⟩,_⟩:=q5j (hT.tiB ht)
      rw [nth_eq,← hmap,List.getElem?_map] at hoff
      obtain ⟨fl,hfl,he⟩:=Option.map_eq_some_iff.1 hoff
      simp only [Prod.mk.injEq] at he
      obtain ⟨rfl,rfl⟩:=he
      have hsz:=fun w=>q3f hT hu hc w
      have hag:=fun w=>qq6 hT hu hc w
      have hfl':fs[f]?=some fl:=by simpa using hfl
      cases hg:tu.agg
      ·simp only [hg,cond_false] at h
       split at h
       ·rename_i y hy
        refine ⟨_,_,h,is_v _,fun w _=>?_⟩
        rw [nth_eq] at hy
        simp [execOp,Instr.field,hR.eq hx rfl,SV.v,run_underlying hfs,hfl',asAgg,part,hag,hg,hy]
       ·exact h.elim
      ·simp only [hg,cond_false,cond_true] at h
       refine ⟨_,_,h,is_v _,fun w _=>?_⟩
       simp [execOp,Instr.field,hR.eq hx rfl,SV.v,run_underlying hfs,hfl',asAgg,part,hag,hg,hsz,List.map_drop,List.map_take]
     ·rw [hc] at h; exact h.elim
    ·exact h.elim
   ·exact h.elim
  ·exact h.elim
 ·exact h.elim
theorem qnw (hT:TOK P T) (hR:Rel n fr a) {t:TypeId} {x y:Operand} (h:rd T fr m k (.indexAddr t x y)):Gives P T fr m a ⟨dst,.indexAddr t x y,ty,pos,after,guard⟩ k:=by
 simp only [rd] at h
 split at h
 ·rename_i s i hx hy
  unfold idxC at h
  split at h
  ·rename_i e sh by' ht
   split at h
   ·rename_i te he
    cases hc:te.isT
    ·rw [hc] at h
     obtain ⟨h0,h1,h2⟩:=h
     have hu:=(q3b (hT.tiB ht)).1
     have hsz:=fun w=>q3f hT he hc w
     cases s with
     | nil=>simp [Sl.len] at h1; omega
     | emp _ _ _=>simp [Sl.len] at h1; omega
     | mk b o len cap =>
      refine ⟨_,_,h2,is_v _,fun w _=>?_⟩
      simp only [Sl.len] at h1
      simp [execOp,Instr.indexAt,hR.eq hx rfl,hR.eq hy rfl,SV.v,Ce.v,Sl.v,asIntOf,run_underlying hu,h0,h1,hsz,qa9,Sl.blk,Sl.off]
    ·rw [hc] at h; exact h.elim
   ·exact h.elim
  ·exact h.elim
 ·exact h.elim
theorem qrb:∀ (sh:List Sh) (b o j:Nat) (k:List Ce->Prop),ldC m b o j sh k->∃ l,k l/\l.length=sh.length/\∀ i,i < sh.length->gcell m b (o+j+i)=(l[i]?).map Ce.v
 | [],_,_,_,_,h=>⟨[],h,rfl,fun i hi=>by simp at hi⟩
 | s :: r,b,o,j,k,h=>by
  obtain ⟨x,hx,h⟩:=h
  obtain ⟨l,hk,hl,hg⟩:=qrb r b o (j+1) _ h
  refine ⟨s.mk x :: l,hk,by simp [hl],fun i hi=>?_⟩
  cases i with
  | zero=>simpa using hx
  | succ i =>
   have:=hg i (by simpa using hi)
   have e:o+(j+1)+i=o+j+(i+1):=by omega
   rw [e] at this
   simpa using this
theorem q58 (hT:TOK P T) (hR:Rel n fr a) {t:TypeId} {x:Operand} {b o:Nat} (hx:a.eval x=.pointer (some ⟨b,o,none⟩)) {ti:TI} (ht:tget T t=some ti) (hnT:ti.isT=false)
  (hA:∀ j,j < ti.sh.length->(b,o+j) ∈ rdA T fr (.load t x)) {l:List Ce} (hl:l.length=ti.sh.length) (hg:∀ i,i < ti.sh.length->gcell m b (o+i)=(l[i]?).map Ce.v)
  {s:SV} (hs:s.known=true) (hsv:(ti.agg=true/\s.v=.agg (l.map Ce.v).toArray) \/ (ti.agg=false/\∃ c,l=[c]/\s.v=c.v)) (hk:k s) :
  Gives P T fr m a ⟨dst,.load t x,ty,pos,after,guard⟩ k:=by
 refine ⟨s,s.v,hk,is_v _,fun w hw=>?_⟩
 have hsz:=q3f hT ht hnT w
 have hag:=qq6 hT ht hnT w
 have hgw:∀ j,j < ti.sh.length->gcell w.heap b (o+j)=(l[j]?).map Ce.v:=fun j hj=>by rw [hw (b,o+j) (hA j hj),hg j hj]
 rcases hsv with ⟨h1,h2⟩ | ⟨h1,c,h2,h3⟩
 ·have hlc:=run_loadCells_list (P:=P) (w:=w) ⟨b,o,none⟩ (l.map Ce.v) (fun j v hj=>by
   rw [qa9,cell?_eq]
   have hj':j < ti.sh.length:=by
    rcases Nat.lt_or_ge j ti.sh.length with h | h
    ·exact h
    ·rw [List.getElem?_eq_none (by simp; omega)] at hj; simp at hj
   rw [hgw j hj',← List.getElem?_map,hj])
  simp only [List.length_map] at hlc
  simp only [execOp,Instr.loadAt,hx,Instr.sureAddr,loadVar,Sem.run_bind,Sem.run_pure,hag,h1,Result.andThen_ok,hsz,if_true]
  simp [← hl,hlc,h2]
 ·subst h2
  have h0:=hgw 0 (by rw [← hl]; simp)
  simp at h0
  simp only [execOp,Instr.loadAt,hx,Instr.sureAddr,loadVar,Sem.run_bind,Sem.run_pure,hag,h1,Result.andThen_ok]
  simp [cell?_eq,h0,h3]
theorem qm5 (hT:TOK P T) (hR:Rel n fr a) {t:TypeId} {x:Operand} {b o:Nat} (hx:a.eval x=.pointer (some ⟨b,o,none⟩))
  (hA:∀ ti j,tget T t=some ti->j < ti.sh.length->(b,o+j) ∈ rdA T fr (.load t x)) (h:loadC T m t b o k):Gives P T fr m a ⟨dst,.load t x,ty,pos,after,guard⟩ k:=by
 unfold loadC at h
 split at h
 ·rename_i offs sh by' ht
  obtain ⟨l,hk,hl,hg⟩:=qrb _ _ _ _ _ h
  exact q58 hT hR hx ht rfl (fun j hj=>hA _ j ht hj) hl (fun i hi=>by simpa using hg i hi) (s:=.agg l) rfl (Or.inl ⟨rfl,rfl⟩) hk
 ·rename_i s by' ht
  obtain ⟨y,hy,hk⟩:=h
  exact q58 hT hR hx ht rfl (fun j hj=>hA _ j ht hj) (l:=[s.mk y]) rfl (fun i hi=>by
   have:i=0:=by simpa using hi
   subst this; exact hy) (s:=.c (s.mk y)) rfl (Or.inr ⟨rfl,_,rfl,rfl⟩) hk
 ·rename_i e s0 by' ht
  obtain ⟨y,hy,hk⟩:=h
  exact q58 hT hR hx ht rfl (fun j hj=>hA _ j ht hj) (l:=[.s y]) rfl (fun i hi=>by
   have:i=0:=by simpa using hi
   subst this; exact hy) (s:=.c (.s y)) rfl (Or.inr ⟨rfl,_,rfl,rfl⟩) hk
 ·exact h.elim
theorem qoo:∀ {cs:List Ce} {len o:Nat} {l:List Ce},takeN cs o len=some l->l.length=len/\∀ i,i < len->cs[o+i]?=l[i]?
 | cs,0,o,l,h=>by simp [takeN] at h; subst h; simp
 | cs,len+1,o,l,h=>by
  simp only [takeN] at h
  split at h
  ·rename_i c r hc hr
   simp at h; subst h
   obtain ⟨h1,h2⟩:=qoo hr
   refine ⟨by simp [h1],fun i hi=>?_⟩
   cases i with
   | zero=>rw [nth_eq] at hc; simpa using hc
   | succ i =>
    have:=h2 i (by omega)
    rw [show o+(i+1)=o+1+i by omega]
    simpa using this
  ·simp at h
theorem qm6 (hT:TOK P T) (hR:Rel n fr a) {t:TypeId} {x:Operand} {b o e:Nat} {cs:List Ce} (hx:a.eval x=.pointer (some ⟨b,o,none⟩))
  (hA:∀ ti j,tget T t=some ti->j < ti.sh.length->(b,o+j) ∈ rdA T fr (.load t x)) (hb:m[b]?=some (.cells (cs.map Ce.v).toArray e)) (h:boxLd T t cs o k) :
  Gives P T fr m a ⟨dst,.load t x,ty,pos,after,guard⟩ k:=by
 have hget:∀ i,gcell m b i=(cs[i]?).map Ce.v:=fun i=>by simp [gcell,hb]
 unfold boxLd at h
 split at h
 ·rename_i offs sh by' ht
  split at h
  ·rename_i l hl
   obtain ⟨h1,h2⟩:=qoo hl
   exact q58 hT hR hx ht rfl (fun j hj=>hA _ j ht hj) h1 (fun i hi=>by rw [hget,h2 i hi]) (s:=.agg l) rfl (Or.inl ⟨rfl,rfl⟩) h
  ·exact h.elim
 ·rename_i s by' ht
  split at h
  ·rename_i c hc
   rw [nth_eq] at hc
   exact q58 hT hR hx ht rfl (fun j hj=>hA _ j ht hj) (l:=[c]) rfl (fun i hi=>by
    have:i=0:=by simpa using hi
    subst this; rw [hget]; simp [hc]) (s:=.c c) rfl (Or.inr ⟨rfl,_,rfl,rfl⟩) h
  ·exact h.elim
 ·rename_i e s0 by' ht
  split at h
  ·rename_i c hc
   rw [nth_eq] at hc
   exact q58 hT hR hx ht rfl (fun j hj=>hA _ j ht hj) (l:=[c]) rfl (fun i hi=>by
    have:i=0:=by simpa using hi
    subst this; rw [hget]; simp [hc]) (s:=.c c) rfl (Or.inr ⟨rfl,_,rfl,rfl⟩) h
  ·exact h.elim
 ·rename_i k0 e0 s0 by' ht
  split at h
  ·rename_i c hc
   rw [nth_eq] at hc
   exact q58 hT hR hx ht rfl (fun j hj=>hA _ j ht hj) (l:=[c]) rfl (fun i hi=>by
    have:i=0:=by simpa using hi
    subst this; rw [hget]; simp [hc]) (s:=.c c) rfl (Or.inr ⟨rfl,_,rfl,rfl⟩) h
  ·exact h.elim
 ·exact h.elim
theorem qsm (hT:TOK P T) (hR:Rel n fr a) (hB:Bx n fr m) {t:TypeId} {x:Operand} (h:rd T fr m k (.load t x)):Gives P T fr m a ⟨dst,.load t x,ty,pos,after,guard⟩ k:=by
 simp only [rd] at h
 split at h
 ·rename_i b o hx
  exact qm5 hT hR (hR.eq hx rfl) (fun ti j ht hj=>by simp only [rdA,hx,ht]; exact List.mem_map.2 ⟨j,List.mem_range.2 hj,rfl⟩) h
 ·rename_i q b o hx
  have hA:∀ ti j,tget T t=some ti->j < ti.sh.length->(b,o+j) ∈ rdA T fr (.load t x):=fun ti j ht hj=>by simp only [rdA,hx,ht]; exact List.mem_map.2 ⟨j,List.mem_range.2 hj,rfl⟩
  split at h
  ·rename_i b' e cs hf
   obtain ⟨rfl,h⟩:=h
   exact qm6 hT hR (hR.eq hx rfl) hA (hB.blk q _ e cs (Or.inl hf)) h
  ·rename_i b' e cs hf
   obtain ⟨rfl,h⟩:=h
   exact qm6 hT hR (hR.eq hx rfl) hA (hB.blk q _ e cs (Or.inr hf)) h
  ·exact qm5 hT hR (hR.eq hx rfl) hA h
 ·exact h.elim
end
end Go.Vc
end
section
/- That the reading operations run as 'rd' says: the rest, and the theorem. -/
namespace Go.Vc
variable {P:Program} {T:TT}
section
variable {n:Nat} {fr:Fr} {a:Act} {m:Mem} {k:SV->Prop} {dst:Option Tmp} {ty:TypeId} {pos:String} {after:Array Edge} {guard:Option (Nat × Bool)}
theorem qqp (hR:Rel n fr a) {x:Operand} {i:Nat} (h:rd T fr m k (.extract x i)):Gives P T fr m a ⟨dst,.extract x i,ty,pos,after,guard⟩ k:=by
 simp only [rd] at h
 split at h
 ·rename_i l hx
  split at h
  ·rename_i y hy
   refine ⟨_,_,h,is_v _,fun w _=>?_⟩
   rw [nth_eq] at hy
   rw [AV.sv_v]
   have:a.eval x=.tuple (l.map AV.v).toArray:=hR.eq hx rfl
   simp [execOp,Instr.extract,this,hy]
  ·exact h.elim
 ·exact h.elim
theorem qpu (hR:Rel n fr a) {x:Option Operand} {d:Int} {k:Int->Prop} (h:optI fr x d k) :
  (x=none/\k d) \/ ∃ y i,x=some y/\a.eval y=.int .i64 i/\k i:=by
 unfold optI at h
 split at h
 ·exact Or.inl ⟨rfl,h⟩
 ·rename_i y
  split at h
  ·rename_i i hi
   exact Or.inr ⟨y,i,rfl,hR.eq hi rfl,h⟩
  ·exact h.elim
theorem q6z (k:IntKind) (i:Int) (y:Nat) (c:BoundsCode) (h0:0<=i) (h1:i<=y) (w:World):(Instr.sliceBound (.int k i) y c).run P w=.ok i.toNat w:=by
 simp [Instr.sliceBound,asIntOf,h0,h1]
theorem cut_v (b o l c lo hi size:Nat):(Sl.cut (.mk b o l c) lo hi size).v=.slice (if c=lo then some ⟨b,o,none⟩ else (some (⟨b,o,none⟩:Addr)).map (·.add (lo*size))) (hi - lo) (c - lo):=by
 show Value.slice _ _ _=_
 simp only [qa9,Option.map_some]
 split <;> rfl
theorem qrz (hT:TOK P T) (hR:Rel n fr a) {t:TypeId} {x:Operand} {lo hi:Option Operand} (h:rd T fr m k (.slice t x lo hi none)):Gives P T fr m a ⟨dst,.slice t x lo hi none,ty,pos,after,guard⟩ k:=by
 simp only [rd] at h
 split at h
 ·rename_i s hx
  unfold sliceC at h
  split at h
  ·rename_i e sh by' ht
   split at h
   ·rename_i te he
    cases hc:te.isT
    ·rw [hc] at h
     have hu:=(q3b (hT.tiB ht)).1
     have hsz:=fun w=>q3f hT he hc w
     have key:∀ (l hh:Int),0<=l->l<=hh->hh<=(s.cap:Int) ->
       (∀ w:World,(Instr.sliceBounds true s.len s.cap (lo.map a.eval) (hi.map a.eval) none).run P w=.ok (l.toNat,hh.toNat,s.cap) w) ->
       ∀ w:World,(execOp a.eval ⟨dst,.slice t x lo hi none,ty,pos,after,guard⟩).run P w=.ok (.value (Ce.s (s.cut l.toNat hh.toNat te.sh.length)).v) w:=by
      intro l hh h0 h1 h2 hb w
      cases s with
      | nil =>
       simp only [Sl.cap,Sl.len] at hb h2
       have:hh=0:=by omega
       have:l=0:=by omega
       subst this; subst hh
       simp [execOp,Instr.sliceAt,hR.eq hx rfl,SV.v,Ce.v,Sl.v,run_underlying hu,Instr.slice,hb,hsz,Sl.cut]
      | emp b0 o0 sp =>
       simp only [Sl.cap,Sl.len] at hb h2
       have:hh=0:=by omega
       have:l=0:=by omega
       subst this; subst hh
       simp [execOp,Instr.sliceAt,hR.eq hx rfl,SV.v,Ce.v,Sl.v,run_underlying hu,Instr.slice,hb,hsz,Sl.cut]
      | mk b o len cap =>
       simp only [Sl.cap,Sl.len] at hb
       have e:(Ce.s ((Sl.mk b o len cap).cut l.toNat hh.toNat te.sh.length)).v=_:=cut_v b o len cap l.toNat hh.toNat te.sh.length
       rw [e]
       have:a.eval x=.slice (some ⟨b,o,none⟩) len cap:=hR.eq hx rfl
       simp [execOp,Instr.sliceAt,this,run_underlying hu,Instr.slice,hb,hsz]
     simp only [cond_false] at h
     rcases qpu hR h with ⟨rfl,h'⟩ | ⟨y,l,rfl,hl,h'⟩ <;> rcases qpu hR h' with ⟨rfl,h0,h1,h2,hk⟩ | ⟨z,hh,rfl,hz,h0,h1,h2,hk⟩
     ·exact ⟨_,_,hk,is_v _,fun w _=>key _ _ h0 h1 h2 (fun w=>by simp [Instr.sliceBounds]) w⟩
     ·exact ⟨_,_,hk,is_v _,fun w _=>key _ _ h0 h1 h2 (fun w=>by simp [Instr.sliceBounds,hz,q6z _ _ _ _ (by omega:0<=hh) h2]) w⟩
     ·exact ⟨_,_,hk,is_v _,fun w _=>key _ _ h0 h1 h2 (fun w=>by simp [Instr.sliceBounds,hl,q6z _ _ _ _ h0 h1]) w⟩
     ·exact ⟨_,_,hk,is_v _,fun w _=>key _ _ h0 h1 h2 (fun w=>by
       have e:l<=(hh.toNat:Int):=by omega
       simp [Instr.sliceBounds,hz,hl,q6z _ _ _ _ (by omega:0<=hh) h2,q6z _ _ _ _ h0 e]) w⟩
    ·rw [hc] at h; exact h.elim
   ·exact h.elim
  ·exact h.elim
 ·exact h.elim
theorem qnm (hT:TOK P T) (hR:Rel n fr a) (offs:List (Nat × Nat)) (place:Nat->Option (Nat × Nat))
  (hp:∀ i off t ti,nth offs i=some (off,t)->tget T t=some ti->ti.isT=false->place i=some (off,ti.sh.length)) :
  ∀ (parts:List (Nat × Operand)) (cs:List Ce) (k:List Ce->Prop),cfill T fr offs cs parts k ->
   ∃ l,k l/\Instr.fill place (cs.map Ce.v).toArray (parts.map fun p=>(p.1,a.eval p.2))=some (l.map Ce.v).toArray
 | [],cs,k,h=>⟨cs,h,rfl⟩
 | (i,x) :: r,cs,k,h=>by
  simp only [cfill] at h
  split at h
  ·rename_i off t new hoff hnew
   split at h
   ·rename_i ti hti
    cases hc:(!ti.isT && Nat.beq new.length ti.sh.length && Nat.ble (off+new.length) cs.length)
    ·rw [hc] at h; exact h.elim
    ·rw [hc] at h
     simp only [Bool.and_eq_true,Bool.not_eq_true'] at hc
     obtain ⟨⟨hc1,hc2⟩,hc3⟩:=hc
     have hc2:=Nat.eq_of_beq_eq_true hc2
     have hc3:=Nat.le_of_ble_eq_true hc3
     obtain ⟨l,hk,hl⟩:=qnm hT hR offs place hp r (setAt cs off new) k h
     refine ⟨l,hk,?_⟩
     obtain ⟨hkn,hcells⟩:=q6w hnew
     have hx:a.eval x=(ev fr x).v:=hR.eq rfl hkn
     simp only [List.map_cons,Instr.fill,hp i off t ti hoff hti hc1,hx,hcells,List.size_toArray,List.length_map,hc2]
     rw [if_neg (by simp; omega),← hl]
     congr 1
     apply Array.ext_getElem?
     intro j
     have e1:=qq4 (new.map Ce.v) 0 off (cs.map Ce.v).toArray j
     rw [← Array.foldl_toList,Array.toList_zipIdx]
     have e2:=qee cs off new j hc3
     rw [show ((List.map Ce.v (setAt cs off new)).toArray)[j]?=((setAt cs off new)[j]?).map Ce.v by simp,e2]
     rw [e1]
     simp
     split <;> split <;> first | rfl | (exfalso; omega) | (congr 1; omega)
   ·exact h.elim
  ·exact h.elim
def szT (T:TT) (t:Nat):Nat:=match tget T t with | some ti=>ti.sh.length | none=>0
theorem qma (hT:TOK P T) (w:World):∀ (fs:List Field),(∀ f ∈ fs,∃ ti,tget T f.type=some ti/\ti.isT=false) ->
  (fs.mapM (fun f=>do pure (f.offset,← sizeOf f.type):Field->Sem (Nat × Nat))).run P w=.ok (fs.map fun f=>(f.offset,szT T f.type)) w
 | [],_=>by simp
 | f :: fs,h=>by
  obtain ⟨ti,hti,hn⟩:=h f (by simp)
  have ih:=qma hT w fs (fun g hg=>h g (by simp [hg]))
  simp only [List.mapM_cons,Sem.run_bind,q3f hT hti hn,Result.andThen_ok,Sem.run_pure] at ih ⊢
  rw [ih]
  simp [szT,hti]
theorem qly:∀ {offs:List (Nat × Nat)},offsIn T offs=true->∀ p ∈ offs,∃ ti,tget T p.2=some ti/\ti.isT=false
 | [],_,_,h=>by simp at h
 | (o,t) :: r,h,p,hp=>by
  simp only [offsIn,Bool.and_eq_true] at h
  rcases List.mem_cons.1 hp with rfl | hp
  ·have h1:=h.1
   split at h1
   ·rename_i ti hti; exact ⟨ti,hti,by simpa using h1⟩
   ·simp at h1
  ·exact qly h.2 p hp
theorem qry (hT:TOK P T) (hR:Rel n fr a) {t:TypeId} {parts:Array (Nat × Operand)} (h:rd T fr m k (.build t parts)):Gives P T fr m a ⟨dst,.build t parts,ty,pos,after,guard⟩ k:=by
 simp only [rd] at h
 split at h
 ·rename_i offs sh by' ht
  cases hin:offsIn T offs
  ·rw [hin] at h; exact h.elim
  rw [hin] at h
  obtain ⟨⟨fs,hfs,hmap⟩,_⟩:=q5j (hT.tiB ht)
  obtain ⟨z,hz,hzr,hzna⟩:=qb0 hT ht rfl
  have hall:∀ f ∈ fs.toList,∃ ti,tget T f.type=some ti/\ti.isT=false:=fun f hf =>
   qly hin (f.offset,f.type) (by rw [← hmap]; exact List.mem_map.2 ⟨f,hf,rfl⟩)
  have hplaces:∀ w:World,(fs.mapM (fun f=>do pure (f.offset,← sizeOf f.type):Field->Sem (Nat × Nat))).run P w=.ok (fs.toList.map fun f=>(f.offset,szT T f.type)).toArray w:=by
   intro w
   rw [Array.mapM_eq_mapM_toList,Sem.run_map,qma hT w fs.toList hall]
   rfl
  obtain ⟨l,hk,hl⟩:=qnm hT hR offs (fun i=>((fs.toList.map fun f=>(f.offset,szT T f.type)).toArray)[i]?) (fun i off t ti ho hti hn=>by
   rw [nth_eq,← hmap,List.getElem?_map] at ho
   obtain ⟨fl,hfl,he⟩:=Option.map_eq_some_iff.1 ho
   simp only [Prod.mk.injEq] at he
   obtain ⟨rfl,rfl⟩:=he
   simp only [List.getElem?_toArray,List.getElem?_map,hfl,Option.map_some,szT,hti]) _ _ _ h
  refine ⟨_,_,hk,is_v _,fun w _=>?_⟩
  have hcs:z.cells=((sh.map Sh.zero).map Ce.v).toArray:=by
   apply Array.toList_inj.1
   simp [hz]
  have hpp:(parts.map fun p=>(p.1,a.eval p.2)).toList=parts.toList.map fun p=>(p.1,a.eval p.2):=by simp
  simp only [execOp,Instr.build,Sem.run_bind,hzr,Result.andThen_ok,run_underlying hfs,hplaces,hcs,hpp,hl]
  simp [SV.v]
 ·exact h.elim
theorem qed (hR:Rel n fr a):∀ {xs:List Operand},xs.all (fun x=>(ev fr x).known)=true->xs.map a.eval=xs.map fun x=>(ev fr x).v
 | [],_=>rfl
 | x :: xs,h=>by
  simp only [List.all_cons,Bool.and_eq_true] at h
  simp only [List.map_cons,hR.eq rfl h.1,qed hR h.2]
theorem qqh (hT:TOK P T) (hR:Rel n fr a) {bi:Builtin} {args:Array Operand} {ts:Array TypeId} (h:rd T fr m k (.call ⟨.builtin bi,args,ts⟩)) :
  Gives P T fr m a ⟨dst,.call ⟨.builtin bi,args,ts⟩,ty,pos,after,guard⟩ k:=by
 simp only [rd] at h
 unfold bltC at h
 split at h
 ·rename_i t x hts hxs
  split at h
  ·rename_i e sh by' s ht hx
   refine ⟨_,_,h,is_v _,fun w _=>?_⟩
   have hu:=(q3b (hT.tiB ht)).1
   have e1:ts=#[t]:=Array.toList_inj.1 (by simpa using hts)
   have e2:args=#[x]:=Array.toList_inj.1 (by simpa using hxs)
   subst e1; subst e2
   have hv:a.eval x=s.v:=hR.eq hx rfl
   cases s <;> simp [execOp,resolve,invoke,builtin,Builtin.len_,run_underlying hu,hv,Sl.v,goInt,SV.v,Ce.v,Sl.len]
  ·exact h.elim
 ·rename_i x y hxs
  split at h
  ·rename_i p q hx hy
   refine ⟨_,_,h,is_v _,fun w _=>?_⟩
   have e2:args=#[x,y]:=Array.toList_inj.1 (by simpa using hxs)
   subst e2
   simp [execOp,resolve,invoke,builtin,Builtin.max_,Builtin.max2,hR.eq hx rfl,hR.eq hy rfl,SV.v,Ce.v]
  ·exact h.elim
 ·rename_i x y hxs
  split at h
  ·rename_i p q hx hy
   refine ⟨_,_,h,is_v _,fun w _=>?_⟩
   have e2:args=#[x,y]:=Array.toList_inj.1 (by simpa using hxs)
   subst e2
   simp [execOp,resolve,invoke,builtin,Builtin.min_,Builtin.min2,hR.eq hx rfl,hR.eq hy rfl,SV.v,Ce.v]
  ·exact h.elim
 ·exact h.elim
theorem qna (hT:TOK P T) (hR:Rel n fr a) (hB:Bx n fr m) (o:Oper) (h:rd T fr m k o.op):Gives P T fr m a o k:=by
 obtain ⟨dst,op,ty,pos,after,guard⟩:=o
 cases op with
 | move x=>exact qtm hR h
 | assign x=>exact gives_ev' hR h
 | pick c x y=>exact qsw hR h
 | nilCheck x=>exact qp7 hR h
 | binOp op t x y yt=>exact qs9 hT hR h
 | unOp op t x=>exact qsn hR h
 | fieldAddr t x f=>exact qnk hT hR h
 | field t x f=>exact qs5 hT hR h
 | indexAddr t x y=>exact qnw hT hR h
 | load t x=>exact qsm hT hR hB h
 | extract x i=>exact qqp hR h
 | slice t x lo hi mx=>cases mx with
  | none=>exact qrz hT hR h
  | some y=>exact h.elim
 | build t parts=>exact qry hT hR h
 | call c =>
  obtain ⟨callee,args,ts⟩:=c
  cases callee with
  | builtin bi=>exact qqh hT hR h
  | value f=>exact h.elim
  | invoke r mm=>exact h.elim
 | _=>exact h.elim
end
end Go.Vc
end
section
/- Cells and blocks of memory: what stores do to them. -/
namespace Go.Vc
def scells (m:Mem) (b o:Nat):List Ce->Mem
 | []=>m
 | c :: r=>scells (scell m b o c.v) b (o+1) r
def wrOk (m:Mem) (b o n:Nat):Prop:=∀ j,j < n->(gcell m b (o+j)).isSome=true/\froz m b (o+j)=false
def rowIs (m:Mem) (b o:Nat) (l:List Ce):Prop:=∀ (i:Nat) (c:Ce),l[i]?=some c->gcell m b (o+i)=some c.v
def zrow (zs:List Ce) (n:Nat):List Ce:=(List.replicate n zs).flatten
def vals (l:List Ce):Array Value:=(l.map Ce.v).toArray
theorem qst (m:Mem) (b o:Nat) (v:Value):(scell m b o v).size=m.size:=by simp [scell]
theorem qmr (m:Mem) (b o:Nat) (v:Value) {j:Nat} (h:j ≠ b):(scell m b o v)[j]?=m[j]?:=by
 simp only [scell,Array.getElem?_modify]
 rw [if_neg (fun e=>h e.symm)]
theorem q02:∀ (l:List Ce) (m:Mem) (b o:Nat),(scells m b o l).size=m.size
 | [],_,_,_=>rfl
 | c :: r,m,b,o=>by simp only [scells]; rw [q02 r,qst]
theorem q0n:∀ (l:List Ce) (m:Mem) (b o:Nat) {j:Nat},j ≠ b->(scells m b o l)[j]?=m[j]?
 | [],_,_,_,_,_=>rfl
 | c :: r,m,b,o,j,h=>by simp only [scells]; rw [q0n r _ _ _ h,qmr m b o _ h]
theorem q5m {m:Mem} {b o:Nat} {v:Value} (h:gcell m b o=some v):b < m.size:=by
 rcases Nat.lt_or_ge b m.size with h' | h'
 ·exact h'
 ·simp [gcell,Array.getElem?_eq_none h'] at h
theorem q16 {m m':Mem} {b:Nat} (h:m'[b]?=m[b]?) (o:Nat):gcell m' b o=gcell m b o:=by simp only [gcell,h]
def Blk (m:Mem) (b:Nat) (e:Nat) (l:List Ce):Prop:=m[b]?=some (.cells (vals l) e)
theorem qtj (l:List Ce) (i:Nat):(vals l)[i]?=(l[i]?).map Ce.v:=by simp [vals]
theorem Blk.get {m:Mem} {b e:Nat} {l:List Ce} (h:Blk m b e l) (o:Nat):gcell m b o=(l[o]?).map Ce.v:=by
 have h':m[b]?=some (.cells (vals l) e (0,0)):=h
 simp only [gcell,h',qtj]
theorem Blk.row {m:Mem} {b e:Nat} {l:List Ce} (h:Blk m b e l):rowIs m b 0 l:=fun i c hc=>by rw [h.get,Nat.zero_add,hc]; rfl
theorem Blk.lt {m:Mem} {b e:Nat} {l:List Ce} (h:Blk m b e l):b < m.size:=(Array.getElem?_eq_some_iff.1 h).1
theorem Blk.froz {m:Mem} {b e:Nat} {l:List Ce} (h:Blk m b e l) (o:Nat):froz m b o=false:=by
 have h':m[b]?=some (.cells (vals l) e (0,0)):=h
 simp [Vc.froz,h']
theorem Blk.wrOk {m:Mem} {b e:Nat} {l:List Ce} (h:Blk m b e l) {o n:Nat} (hn:o+n<=l.length):wrOk m b o n:=fun j hj=>by
 refine ⟨?_,h.froz _⟩
 rw [h.get]
 simp
 omega
theorem Blk.push (m:Mem) (l:List Ce) (e:Nat):Blk (m.push (.cells (vals l) e)) m.size e l:=by simp [Blk]
theorem Blk.congr {m m':Mem} {b e:Nat} {l:List Ce} (hb:Blk m b e l) (h:m'[b]?=m[b]?):Blk m' b e l:=by
 unfold Blk at *; rw [h]; exact hb
theorem Blk.scell {m:Mem} {b e:Nat} {l:List Ce} (h:Blk m b e l) (o:Nat) (c:Ce):Blk (scell m b o c.v) b e (l.set o c):=by
 have h':m[b]?=some (.cells (vals l) e (0,0)):=h
 have hlt:=h.lt
 simp only [Blk,Vc.scell,Array.getElem?_modify,if_true,h',Option.map_some]
 congr 2
 apply Array.ext_getElem?
 intro i
 simp only [vals,Array.getElem?_setIfInBounds,List.getElem?_toArray,List.getElem?_map,List.getElem?_set,List.size_toArray,List.length_map]
 by_cases e:o=i
 ·subst e
  by_cases hl:o < l.length
  ·simp [hl]
  ·simp [hl]
 ·simp [e]
def setL (l:List Ce) (o:Nat):List Ce->List Ce
 | []=>l
 | c :: r=>setL (l.set o c) (o+1) r
theorem q3y:∀ (r l:List Ce) (o:Nat),(setL l o r).length=l.length
 | [],_,_=>rfl
 | c :: r,l,o=>by simp only [setL]; rw [q3y r]; simp
theorem qde:∀ (r l:List Ce) (o i:Nat),(setL l o r)[i]?=if o<=i/\i < o+r.length/\i < l.length then r[i - o]? else l[i]?
 | [],l,o,i=>by simp [setL]; intro h; omega
 | c :: r,l,o,i=>by
  simp only [setL]
  rw [qde r,List.getElem?_set]
  simp only [List.length_set,List.length_cons]
  by_cases h1:o=i
  ·subst h1
   by_cases h2:o < l.length
   ·simp [h2]; try omega
   ·simp [h2]; try omega
  ·by_cases h2:o<=i/\i < o+(r.length+1)/\i < l.length
   ·rw [if_pos h2,if_pos (by omega),show i - o=(i - (o+1))+1 by omega,List.getElem?_cons_succ]
   ·rw [if_neg h2,if_neg (by omega)]
    simp [h1]
theorem Blk.scells {m:Mem} {b e:Nat}:∀ {r l:List Ce} {m:Mem} {o:Nat},Blk m b e l->Blk (scells m b o r) b e (setL l o r)
 | [],_,_,_,h=>h
 | c :: r,l,m,o,h=>by
  simp only [Vc.scells,setL]
  exact Blk.scells (m:=m) (h.scell o c)
def memN (t:Nat):List Nat->Bool
 | []=>false
 | u :: r=>Nat.beq u t || memN t r
theorem qja {t:Nat}:∀ {M:List Nat},memN t M=true->t ∈ M
 | [],h=>by simp [memN] at h
 | u :: r,h=>by
  simp only [memN,Bool.or_eq_true] at h
  rcases h with h | h
  ·rw [Nat.eq_of_beq_eq_true h]; exact List.mem_cons_self
  ·exact List.mem_cons_of_mem _ (qja h)
def trk (n:Nat):Fr->List Nat->List Nat
 | [],_=>[]
 | (q,x) :: r,seen=>bif Nat.ble n q && !memN q seen then
   match x with
   | .box b _ _=>b :: trk n r (q :: seen)
   | .boxF b _ _=>b :: trk n r (q :: seen)
   | _=>trk n r (q :: seen)
  else trk n r seen
def Sam (l:List Nat) (m m':Mem):Prop:=∀ b ∈ l,m'[b]?=m[b]?
def samC (l:List Nat) (m m':Mem) (k:Prop):Prop :=
 match l with
 | []=>k
 | _=>Sam l m m'/\k
theorem q4h {l:List Nat} {m m':Mem} {k:Prop} (h:samC l m m' k):Sam l m m'/\k:=by
 unfold samC at h
 split at h
 ·exact ⟨(fun b hb=>by cases hb),h⟩
 ·exact h
theorem qf6 {n:Nat} {q b e:Nat} {l:List Ce} (hq:n<=q):∀ {fr:Fr} {seen:List Nat},q ∉ seen->boxAt fr q b e l->b ∈ trk n fr seen
 | [],seen,_,h=>by rcases h with h | h <;> simp [fget] at h
 | (u,x) :: r,seen,hs,h=>by
  simp only [trk]
  cases hu:Nat.beq u q
  ·have hne:u ≠ q:=fun e=>by subst e; simp at hu
   have h':boxAt r q b e l:=by
    unfold boxAt at h ⊢
    simpa only [fget,hu,cond_false] using h
   have hs':q ∉ u :: seen:=by
    simp only [List.mem_cons,not_or]
    exact ⟨fun e=>hne e.symm,hs⟩
   cases (Nat.ble n u && !memN u seen)
   ·exact qf6 hq hs h'
   ·simp only [cond_true]
    split
    ·exact List.mem_cons_of_mem _ (qf6 hq hs' h')
    ·exact List.mem_cons_of_mem _ (qf6 hq hs' h')
    ·exact qf6 hq hs' h'
  ·have:=Nat.eq_of_beq_eq_true hu
   subst this
   have hm:memN u seen=false:=by
    cases hmm:memN u seen
    ·rfl
    ·exact absurd (qja hmm) hs
   have hb:Nat.ble n u=true:=Nat.ble_eq_true_of_le hq
   simp only [hm,hb,Bool.not_false,Bool.and_self,cond_true]
   unfold boxAt at h
   simp only [fget,hu,cond_true] at h
   rcases h with h | h <;> rw [h] <;> exact List.mem_cons_self
theorem Bx.top {n:Nat} {fr:Fr} {m:Mem} (h:Bx n fr m) {q:Nat} {x:SV} (hx:∀ b e l,x ≠ .box b e l/\x ≠ .boxF b e l):Bx n ((q,x) :: fr) m:=by
 have key:∀ {u b e l},boxAt ((q,x) :: fr) u b e l->boxAt fr u b e l:=by
  intro u b e l hb
  unfold boxAt at hb ⊢
  simp only [fget] at hb
  cases hu:Nat.beq q u
  ·rw [hu] at hb; exact hb
  ·rw [hu] at hb
   rcases hb with hb | hb
   ·exact absurd hb (hx b e l).1
   ·exact absurd hb (hx b e l).2
 exact ⟨fun q b e l h'=>h.blk q b e l (key h'),fun q q' b e l b' e' l' hne h1 h2=>h.dist q q' b e l b' e' l' hne (key h1) (key h2),fun q b e l h'=>h.key q b e l (key h')⟩
theorem SV.nb_ne (x:SV) (b e:Nat) (l:List Ce):x.nb ≠ .box b e l/\x.nb ≠ .boxF b e l:=by
 cases x <;> exact ⟨by simp [SV.nb],by simp [SV.nb]⟩
theorem Bx.put {n:Nat} {fr:Fr} {m:Mem} (h:Bx n fr m) (d:Option Nat) (x:SV):Bx n (fput fr d x) m:=by
 cases d with
 | none=>exact h
 | some d=>exact h.top (SV.nb_ne x)
theorem Bx.sam {n:Nat} {fr:Fr} {m m':Mem} (h:Bx n fr m) (hs:Sam (trk n fr []) m m'):Bx n fr m' :=
 ⟨fun q b e l hb=>by rw [hs b (qf6 (h.key q b e l hb) (by simp) hb)]; exact h.blk q b e l hb,h.dist,h.key⟩
theorem Bx.push {n:Nat} {fr:Fr} {m:Mem} (h:Bx n fr m) (o:Obj):Bx n fr (m.push o) :=
 ⟨fun q b e l hb=>by
  have h1:=h.blk q b e l hb
  have hlt:=(Array.getElem?_eq_some_iff.1 h1).1
  rw [Array.getElem?_push,if_neg (by omega)]; exact h1,h.dist,h.key⟩
theorem Bx.new {n:Nat} {fr:Fr} {m:Mem} (h:Bx n fr m) {q:Nat} (hq:n<=q) (t:Nat) (l:List Ce):Bx n ((q,.box m.size t l) :: fr) (m.push (.cells (vals l) t)):=by
 have hp:=h.push (.cells (vals l) t)
 have lt:∀ {u b e l},boxAt fr u b e l->b < m.size:=fun hb=>(Array.getElem?_eq_some_iff.1 (h.blk _ _ _ _ hb)).1
 have key:∀ {u b e l'},boxAt ((q,.box m.size t l) :: fr) u b e l'->(u=q/\b=m.size/\e=t/\l'=l) \/ (u ≠ q/\boxAt fr u b e l'):=by
  intro u b e l' hb
  unfold boxAt at hb ⊢
  simp only [fget] at hb
  cases hu:Nat.beq q u
  ·rw [hu] at hb; exact Or.inr ⟨fun e=>by subst e; simp at hu,hb⟩
  ·rw [hu] at hb
   have:=Nat.eq_of_beq_eq_true hu
   subst this
   rcases hb with hb | hb
   ·simp at hb; exact Or.inl ⟨rfl,hb.1.symm,hb.2.1.symm,hb.2.2.symm⟩
   ·simp at hb
 refine ⟨fun u b e l' hb=>?_,fun u u' b e l1 b' e' l2 hne h1 h2=>?_,fun u b e l' hb=>?_⟩
 ·rcases key hb with ⟨rfl,rfl,rfl,rfl⟩ | ⟨_,hb⟩
  ·simp [vals]
  ·exact hp.blk u b e l' hb
 ·rcases key h1 with ⟨rfl,rfl,rfl,rfl⟩ | ⟨hu,h1'⟩
  ·rcases key h2 with ⟨rfl,rfl,rfl,rfl⟩ | ⟨hu',h2'⟩
   ·exact absurd rfl hne
   ·have:=lt h2'; omega
  ·rcases key h2 with ⟨rfl,rfl,rfl,rfl⟩ | ⟨hu',h2'⟩
   ·have:=lt h1'; omega
   ·exact h.dist u u' b e l1 b' e' l2 hne h1' h2'
 ·rcases key hb with ⟨rfl,rfl,rfl,rfl⟩ | ⟨_,hb⟩
  ·exact hq
  ·exact h.key u b e l' hb
theorem Bx.upd {n:Nat} {fr:Fr} {m:Mem} (h:Bx n fr m) {q b e:Nat} {cs:List Ce} (hq:fget fr q=.box b e cs) (o:Nat) (l:List Ce):Bx n ((q,.box b e (setL cs o l)) :: fr) (scells m b o l):=by
 have hold:boxAt fr q b e cs:=Or.inl hq
 have hblk:Blk m b e cs:=h.blk q b e cs hold
 have key:∀ {u b' e' l'},boxAt ((q,.box b e (setL cs o l)) :: fr) u b' e' l'->(u=q/\b'=b/\e'=e/\l'=setL cs o l) \/ (u ≠ q/\boxAt fr u b' e' l'):=by
  intro u b' e' l' hb
  unfold boxAt at hb ⊢
  simp only [fget] at hb
  cases hu:Nat.beq q u
  ·rw [hu] at hb; exact Or.inr ⟨fun e=>by subst e; simp at hu,hb⟩
  ·rw [hu] at hb
   have:=Nat.eq_of_beq_eq_true hu
   subst this
   rcases hb with hb | hb
   ·simp at hb; exact Or.inl ⟨rfl,hb.1.symm,hb.2.1.symm,hb.2.2.symm⟩
   ·simp at hb
 refine ⟨fun u b' e' l' hb=>?_,fun u u' b1 e1 l1 b2 e2 l2 hne h1 h2=>?_,fun u b' e' l' hb=>?_⟩
 ·rcases key hb with ⟨rfl,rfl,rfl,rfl⟩ | ⟨hu,hb⟩
  ·exact Blk.scells (m:=m) hblk
  ·rw [q0n l m b o (h.dist u q b' e' l' b e cs hu hb hold)]
   exact h.blk u b' e' l' hb
 ·rcases key h1 with ⟨rfl,rfl,rfl,rfl⟩ | ⟨hu,h1'⟩
  ·rcases key h2 with ⟨rfl,rfl,rfl,rfl⟩ | ⟨hu',h2'⟩
   ·exact absurd rfl hne
   ·exact fun e=>h.dist u' u b2 e2 l2 _ _ _ hu' h2' hold e.symm
  ·rcases key h2 with ⟨rfl,rfl,rfl,rfl⟩ | ⟨hu',h2'⟩
   ·exact h.dist u u' b1 e1 l1 _ _ _ hu h1' hold
   ·exact h.dist u u' b1 e1 l1 b2 e2 l2 hne h1' h2'
 ·rcases key hb with ⟨rfl,rfl,rfl,rfl⟩ | ⟨_,hb⟩
  ·exact h.key u b' e' cs hold
  ·exact h.key u b' e' l' hb
def escC (fr:Fr):List Ce->Option Fr
 | []=>some fr
 | .bp q _ _ :: r=>match fget fr q with
  | .boxF _ _ _=>none
  | _=>escC ((q,.top) :: fr) r
 | _ :: r=>escC fr r
def AV.ces:AV->List Ce
 | .c x=>[x]
 | .agg l=>l
def SV.ces:SV->List Ce
 | .c x=>[x]
 | .agg l=>l
 | .tup l=>l.flatMap AV.ces
 | _=>[]
def escL (fr:Fr) (l:List SV):Option Fr:=escC fr (l.flatMap SV.ces)
theorem q6h {n:Nat} {a:Act} {m:Mem}:∀ {l:List Ce} {fr fr':Fr},escC fr l=some fr'->Rel n fr a->Bx n fr m->Rel n fr' a/\Bx n fr' m
 | [],fr,fr',h,hR,hB=>by simp [escC] at h; subst h; exact ⟨hR,hB⟩
 | c :: r,fr,fr',h,hR,hB=>by
  cases c with
  | bp q b o =>
   simp only [escC] at h
   split at h
   ·simp at h
   ·exact q6h h (hR.top q) (hB.top (by simp))
  | _=>exact q6h (l:=r) (by simpa [escC] using h) hR hB
end Go.Vc
end
section
/- The operations that write or make memory, or call: what each asks, and what it gives. -/
namespace Go.Vc
variable {P:Program} {T:TT}
def appC (m:Mem) (e:Nat) (zs:List Ce) (bytes:Nat) (s x:Sl) (k:Sl->Mem->Prop):Prop :=
 ∃ new:List Ce,new.length=x.len*zs.length/\rowIs m x.blk x.off new /\
  (s.len+x.len<=s.cap->wrOk m s.blk (s.off+s.len*zs.length) new.length /\
   k (match s with | .nil=>.nil | .mk b o l c=>.mk b o (l+x.len) c | .emp b o sp=>.emp b o sp) (scells m s.blk (s.off+s.len*zs.length) new)) /\
  (s.cap < s.len+x.len->(s.len+x.len)*bytes<=140737488355328/\∃ old:List Ce,old.length=s.len*zs.length/\rowIs m s.blk s.off old /\
   ∀ c,s.len+x.len<=c->k (.mk m.size 0 (s.len+x.len) c) (m.push (.cells (vals (old ++ new ++ zrow zs (c - (s.len+x.len)))) e)))
def copC (m:Mem) (size:Nat) (s x:Sl) (k:SV->Mem->Prop):Prop :=
 ∃ new:List Ce,new.length=Nat.min x.len s.len*size/\rowIs m x.blk x.off new/\wrOk m s.blk s.off new.length /\
  k (.c (.i (Nat.min x.len s.len:Nat))) (scells m s.blk s.off new)
def exC:List Sh->(List Ce->Prop)->Prop
 | [],k=>k []
 | s :: r,k=>∃ x:s.ty,exC r fun l=>k (s.mk x :: l)
def exT (T:TT):List Nat->(List AV->Prop)->Prop
 | [],k=>k []
 | t :: r,k=>match tget T t with
  | some ⟨.struct _,sh,_⟩=>exC sh fun l=>exT T r fun vs=>k (.agg l :: vs)
  | some ⟨.cell,[s],_⟩=>∃ x:s.ty,exT T r fun vs=>k (.c (s.mk x) :: vs)
  | some ⟨.slice _,[_],_⟩=>∃ x:Sl,exT T r fun vs=>k (.c (.s x) :: vs)
  | _=>False
def resC (T:TT) (t:Nat) (v:Value) (k:SV->Prop):Prop :=
 match tget T t with
 | some ⟨.tuple [],_,_⟩=>k .top
 | some ⟨.tuple ts,_,_⟩=>exT T ts fun l=>v=.tuple (l.map AV.v).toArray/\k (.tup l)
 | some ⟨.struct _,sh,_⟩=>exC sh fun l=>v=.agg (l.map Ce.v).toArray/\k (.agg l)
 | some ⟨.cell,[s],_⟩=>∃ x:s.ty,v=(s.mk x).v/\k (.c (s.mk x))
 | some ⟨.slice _,[_],_⟩=>∃ x:Sl,v=x.v/\k (.c (.s x))
 | _=>False
def callC (P:Program) (T:TT) (G:List Nat) (n:Nat) (fr:Fr) (m:Mem) (ty:Nat) (f:Operand) (args:List Operand) (k:Fr->SV->Mem->Prop):Prop :=
 match escL fr (args.map (ev fr)) with
 | none=>False
 | some fr'=>match ev fr f with
  | .c (.fn (.func g) first captured)=>bif G.elem g && args.all (fun x=>(ev fr x).known) then
    q08 P g (first.toList ++ (args.map fun x=>(ev fr x).v) ++ captured.toList) m fun v m'=>samC (trk n fr' []) m m' (resC T ty v fun x=>k fr' x m')
   else False
  | .c (.fv q)=>bif args.all (fun x=>(ev fr x).known) then
    ∃ g,q.1=.func g/\G.elem g=true/\q08 P g (q.2.1.toList ++ (args.map fun x=>(ev fr x).v) ++ q.2.2.toList) m fun v m'=>samC (trk n fr' []) m m' (resC T ty v fun x=>k fr' x m')
   else False
  | _=>False
def mapOf (m:Mem) (b:Nat) (l:List (Int × Int)):Prop :=
 ∃ es clock,m[b]?=some (.map es clock)/\es.toList.map (fun e=>(e.key,e.val))=l.map fun p=>(Value.int .i64 p.1,Value.int .i64 p.2)
def mget (l:List (Int × Int)) (k:Int):Int :=
 match l with
 | []=>0
 | (j,v) :: r=>if k=j then v else mget r k
def mput (l:List (Int × Int)) (k v:Int):List (Int × Int) :=
 match l with
 | []=>[(k,v)]
 | (j,u) :: r=>if k=j then (j,v) :: r else (j,u) :: mput r k v
def pcells (T:TT) (fr:Fr) (size:Nat):List Ce->List (Nat × Operand)->(List Ce->Prop)->Prop
 | cs,[],k=>k cs
 | cs,(i,x) :: r,k =>
  match (ev fr x).cells with
  | some new=>bif Nat.beq new.length size && Nat.ble (i*size+new.length) cs.length then pcells T fr size (setAt cs (i*size) new) r k else False
  | none=>False
def newB (n:Nat) (fr:Fr) (d:Option Nat) (m:Mem) (t:Nat) (l:List Ce) (k:Fr->SV->Mem->Prop):Prop :=
 match d with
 | some dd=>match fget fr (n+dd) with
  | .boxF _ _ _=>False
  | _=>k ((n+dd,.box m.size t l) :: fr) (.c (.bp (n+dd) m.size 0)) (m.push (.cells (vals l) t))
 | none=>k fr (.c (.p m.size 0)) (m.push (.cells (vals l) t))
def storeT (n:Nat) (fr:Fr) (m:Mem) (x:SV) (l:List Ce) (k:Fr->SV->Mem->Prop):Prop :=
 match x with
 | .c (.p b o)=>wrOk m b o l.length/\samC (trk n fr []) m (scells m b o l) (k fr .un (scells m b o l))
 | .c (.bp q b o)=>match fget fr q with
  | .box b' e cs=>bif Nat.ble (o+l.length) cs.length then eqT b' b (k ((q,.box b' e (setL cs o l)) :: fr) .un (scells m b o l)) else False
  | .boxF _ _ _=>False
  | _=>wrOk m b o l.length/\samC (trk n fr []) m (scells m b o l) (k fr .un (scells m b o l))
 | _=>False
def wr (P:Program) (T:TT) (G:List Nat) (n:Nat) (fr:Fr) (m:Mem) (d:Option Nat) (ty:Nat) (k:Fr->SV->Mem->Prop):Op->Prop
 | .alloc t=>match tget T t with
  | some ti=>bif ti.isT then False else newB n fr d m t (ti.sh.map Sh.zero) k
  | none=>False
 | .box t x=>match (ev fr x).cells with
  | some l=>match escC fr l with
   | some fr'=>newB n fr' d m t l k
   | none=>False
  | none=>False
 | .buildSlice t len parts=>match tget T t with
  | some ⟨.slice e,_,_⟩=>match tget T e with
   | some te=>bif te.isT || !(Nat.ble (len*te.sh.length) 16777216) then False else
    pcells T fr te.sh.length (zrow (te.sh.map Sh.zero) len) parts.toList fun l=>match escC fr l with
     | some fr'=>k fr' (.c (.s (.mk m.size 0 len len))) (m.push (.cells (vals l) e))
     | none=>False
   | none=>False
  | _=>False
 | .store t x y=>match (ev fr y).cells,tget T t with
  | some l,some ti=>bif ti.isT || !(Nat.beq l.length ti.sh.length) then False else match escC fr l with
   | some fr'=>storeT n fr' m (ev fr x) l k
   | none=>False
  | _,_=>False
 | .makeSlice t x y=>match tget T t,ev fr x,ev fr y with
  | some ⟨.slice e,_,_⟩,.c (.i l),.c (.i c)=>match tget T e with
   | some te=>bif te.isT then False else 0<=l/\l<=c/\(te.bytes:Int)*c<=281474976710656/\c<=9223372036854775807 /\
     k fr (.c (.s (.mk m.size 0 l.toNat c.toNat))) (m.push (.cells (vals (zrow (te.sh.map Sh.zero) c.toNat)) e))
   | none=>False
  | _,_,_=>False
 | .makeFunc fn first captured=>bif first.toList.all (fun x=>(ev fr x).known) && captured.toList.all (fun x=>(ev fr x).known) then
   match escL fr (first.toList.map (ev fr) ++ captured.toList.map (ev fr)) with
   | some fr'=>k fr' (.c (.fn fn (first.toList.map fun x=>(ev fr x).v).toArray (captured.toList.map fun x=>(ev fr x).v).toArray)) m
   | none=>False
  else False
 | .makeMap _ none=>k fr (.c (.mp m.size)) (m.push (.map #[] 0))
 | .lookup t x y false=>match tget T t,ev fr x,ev fr y with
  | some ⟨.map kt et,_,_⟩,.c (.mp b),.c (.i n)=>match tget T kt,tget T et with
   | some ⟨.cell,[.I],_⟩,some ⟨.cell,[.I],_⟩=>∃ l,mapOf m b l/\k fr (.c (.i (mget l n))) m
   | _,_=>False
  | _,_,_=>False
 | .mapUpdate t x y z=>match tget T t,ev fr x,ev fr y,ev fr z with
  | some ⟨.map kt _,_,_⟩,.c (.mp b),.c (.i n0),.c (.i v)=>match tget T kt with
   | some ⟨.cell,[.I],_⟩=>∃ l,mapOf m b l/\∀ m',mapOf m' b (mput l n0 v)->m'.size=m.size->(∀ j,j ≠ b->m'[j]?=m[j]?)->samC (trk n fr []) m m' (k fr .un m')
   | _=>False
  | _,_,_,_=>False
 | .call ⟨.value f,args,_⟩=>callC P T G n fr m ty f args.toList k
 | .call ⟨.builtin .append,args,ts⟩=>match args.toList,ts.toList with
  | [x,y],[t,u]=>match tget T t,tget T u,ev fr x,ev fr y with
   | some ⟨.slice e,_,_⟩,some ⟨.slice _,_,_⟩,.c (.s s),.c (.s z)=>match tget T e with
    | some te=>bif te.isT || Nat.beq te.bytes 0 then False else appC m e (te.sh.map Sh.zero) te.bytes s z fun r m'=>samC (trk n fr []) m m' (k fr (.c (.s r)) m')
    | none=>False
   | _,_,_,_=>False
  | _,_=>False
 | .call ⟨.builtin .copy,args,ts⟩=>match args.toList,ts.toList with
  | [x,y],t :: _=>match tget T t,ev fr x,ev fr y with
   | some ⟨.slice e,_,_⟩,.c (.s s),.c (.s z)=>match tget T e with
    | some te=>bif te.isT then False else copC m te.sh.length s z fun x m'=>samC (trk n fr []) m m' (k fr x m')
    | none=>False
   | _,_,_=>False
  | _,_=>False
 | _=>False
def qjc (P:Program) (g:Nat):Bool :=
 match P.funcs[g]? with
 | some fn => !(fn.name == "runtime.NumGoroutine") && fn.body.isSome
 | none=>false
def GOK (P:Program) (G:List Nat):Prop:=G.all (qjc P)=true
theorem qrj (zs:List Ce):∀ (n i:Nat),i < n*zs.length->(zrow zs n)[i]?=zs[i % zs.length]?
 | 0,i,h=>by simp at h
 | n+1,i,h=>by
  have hz:0 < zs.length:=by
   rcases Nat.eq_zero_or_pos zs.length with e | e
   ·rw [e] at h; simp at h
   ·exact e
  have e:zrow zs (n+1)=zs ++ zrow zs n:=by simp [zrow,List.replicate_succ]
  rw [e,List.getElem?_append]
  split
  ·rename_i hi; rw [Nat.mod_eq_of_lt hi]
  ·rename_i hi
   rw [qrj zs n (i - zs.length) (by rw [Nat.add_mul,Nat.one_mul] at h; omega)]
   congr 1
   rw [Nat.mod_eq_sub_mod (by omega:i ≥ zs.length)]
theorem q7r (zs:List Ce) (n:Nat):(zrow zs n).length=n*zs.length:=by
 simp [zrow]
theorem qk4 (zs:List Ce) (z:Array Value) (hz:z.toList=zs.map Ce.v) (n:Nat) :
  (Array.range (n*zs.length)).map (fun i=>z[i % z.size]!)=vals (zrow zs n):=by
 apply Array.ext_getElem?
 intro i
 have hs:z.size=zs.length:=by rw [← Array.length_toList,hz]; simp
 by_cases hi:i < n*zs.length
 ·have h1:=qrj zs n i hi
  have hpos:0 < zs.length:=by
   rcases Nat.eq_zero_or_pos zs.length with e | e
   ·rw [e] at hi; simp at hi
   ·exact e
  have hlt:i % zs.length < zs.length:=Nat.mod_lt _ hpos
  have h2:(vals (zrow zs n))[i]?=((zrow zs n)[i]?).map Ce.v:=by simp [vals]
  rw [h2,h1,← List.getElem?_map,← hz]
  simp [hi,hs,hlt]
 ·have h2:(vals (zrow zs n))[i]?=none:=by simp [vals,q7r]; omega
  rw [h2]
  simp [hi]
end Go.Vc
end
section
/- That the writing operations and the calls run as 'wr' says. -/
namespace Go.Vc
variable {P:Program} {T:TT} {G:List Nat}
theorem Ce.oneCell (x:Ce):x.v.oneCell'=true:=by
 cases x with
 | s y=>cases y <;> rfl
 | _=>rfl
theorem q47:∀ (l:List Ce) (w:World) (b o:Nat),(w.setCells b o (l.map Ce.v)).heap=scells w.heap b o l
 | [],_,_,_=>rfl
 | c :: r,w,b,o=>by
  simp only [List.map_cons,World.setCells,scells]
  rw [q47 r,qre]
theorem q7x:∀ (l:List Value) (w:World) (b o:Nat),Same w (w.setCells b o l)
 | [],w,_,_=>Same.refl w
 | c :: r,w,b,o=>by
  simp only [World.setCells]
  exact Same.trans (b:=w.setCell ⟨b,o,none⟩ c) ⟨rfl,rfl,rfl⟩ (q7x r _ b (o+1))
theorem qg3 (l:List Ce) (b o:Nat) (w:World) (h:wrOk w.heap b o l.length) :
  (storeCells ⟨b,o,none⟩ (l.map Ce.v)).run P w=.ok () (w.setCells b o (l.map Ce.v)):=by
 have:=run_storeCells_cells (P:=P) b o (l.map Ce.v) 0 w
  (fun j hj=>by have:=(h j (by simpa using hj)).1; rw [cell?_eq]; simpa using this)
  (fun j hj=>by have:=(h j (by simpa using hj)).2; rw [frozen?_eq]; simpa using this)
  (fun v hv=>by obtain ⟨c,_,rfl⟩:=List.mem_map.1 hv; exact c.oneCell)
 simpa using this
theorem qs2 (l:List Ce) (b o:Nat) (w:World) (h:rowIs w.heap b o l):(loadCells ⟨b,o,none⟩ l.length).run P w=.ok (vals l) w:=by
 have:=run_loadCells_list (P:=P) (w:=w) ⟨b,o,none⟩ (l.map Ce.v) (fun j v hj=>by
  rw [qa9,cell?_eq]
  rw [List.getElem?_map] at hj
  obtain ⟨c,hc,rfl⟩:=Option.map_eq_some_iff.1 hj
  exact h j c hc)
 simpa [vals] using this
section
variable {n:Nat} {fr:Fr} {a:Act} {m:Mem} {k:Fr->SV->Mem->Prop} {dst:Option Tmp} {ty:TypeId} {pos:String} {after:Array Edge} {guard:Option (Nat × Bool)}
def Does (P:Program) (n:Nat) (a:Act) (m:Mem) (o:Oper) (k:Fr->SV->Mem->Prop):Prop :=
 ∀ (w:World),w.heap=m->∀ (next:Act->World->Prop) (Q:Exit->Act->World->Prop),
  (∀ fr' x v w',k fr' x w'.heap->Rel n fr' a->Bx n fr' w'.heap->x.Is v->Same w w'->next (a.put o.dst v) w')->o.wp P a w next Q
theorem q36 {o:Oper} {fr':Fr} {x:SV} {v:Value} {w w':World} (hR:Rel n fr' a) (hB:Bx n fr' w'.heap) (hx:x.Is v) (hs:Same w w') (hk:k fr' x w'.heap) (hrun:(execOp a.eval o).run P w=.ok (.value v) w')
  {next:Act->World->Prop} {Q:Exit->Act->World->Prop} (hn:∀ fr' x v w',k fr' x w'.heap->Rel n fr' a->Bx n fr' w'.heap->x.Is v->Same w w'->next (a.put o.dst v) w'):o.wp P a w next Q:=by
 unfold Oper.wp
 rw [hrun]
 exact hn fr' x v w' hk hR hB hx hs
theorem qqg {d:Option Nat} {t:Nat} {l:List Ce} (hR:Rel n fr a) (hB:Bx n fr m) (h:newB n fr d m t l k) :
  ∃ fr' x,Rel n fr' a/\Bx n fr' (m.push (.cells (vals l) t))/\x.Is (.pointer (some ⟨m.size,0,none⟩))/\k fr' x (m.push (.cells (vals l) t)):=by
 unfold newB at h
 split at h
 ·split at h
  ·exact h.elim
  ·rename_i dd _ hbf
   exact ⟨(n+dd,.box m.size t l) :: fr,.c (.bp (n+dd) m.size 0),hR.cons _ (fun _=>trivial),hB.new (Nat.le_add_right _ _) t l,rfl,h⟩
 ·exact ⟨fr,.c (.p m.size 0),hR,hB.push _,rfl,h⟩
theorem qs7 {x:SV} {l:List Ce} (hR:Rel n fr a) (hB:Bx n fr m) (h:storeT n fr m x l k) :
  ∃ fr' b o,Rel n fr' a/\Bx n fr' (scells m b o l)/\(∀ v,x.Is v->v=.pointer (some ⟨b,o,none⟩))/\wrOk m b o l.length/\k fr' .un (scells m b o l):=by
 unfold storeT at h
 split at h
 ·obtain ⟨h1,h2⟩:=q4h h.2
  exact ⟨_,_,_,hR,hB.sam h1,fun v hv=>hv,h.1,h2⟩
 ·split at h
  ·rename_i q b o _ b' e cs hq
   cases hc:Nat.ble (o+l.length) cs.length
   ·rw [hc] at h; exact h.elim
   ·rw [hc] at h
    obtain ⟨rfl,h⟩:=h
    have hb:Blk m b' e cs:=hB.blk q b' e cs (Or.inl hq)
    exact ⟨(q,.box b' e (setL cs o l)) :: fr,_,_,hR.cons _ (fun _=>trivial),hB.upd hq o l,fun v hv=>hv,hb.wrOk (Nat.le_of_ble_eq_true hc),h⟩
  ·exact h.elim
  ·obtain ⟨h1,h2⟩:=q4h h.2
   exact ⟨_,_,_,hR,hB.sam h1,fun v hv=>hv,h.1,h2⟩
 ·exact h.elim
theorem qsq (hT:TOK P T) (hR:Rel n fr a) (hB:Bx n fr m) {t:TypeId} (h:wr P T G n fr m dst ty k (.alloc t)):Does P n a m ⟨dst,.alloc t,ty,pos,after,guard⟩ k:=by
 intro w hw next Q hn
 subst hw
 simp only [wr] at h
 split at h
 ·rename_i ti hti
  cases hc:ti.isT
  ·rw [hc] at h
   obtain ⟨z,hz,hzr,hzna⟩:=qb0 hT hti hc
   have hcs:z.cells=vals (ti.sh.map Sh.zero):=by apply Array.toList_inj.1; simp [hz,vals]
   obtain ⟨fr',x,hR',hB',hx,hk⟩:=qqg hR hB h
   refine q36 (w:=w) (x:=x) (v:=.pointer (some ⟨w.heap.size,0,none⟩)) (w':={ w with heap:=w.heap.push (.cells (vals (ti.sh.map Sh.zero)) t) }) hR' hB' hx ⟨rfl,rfl,rfl⟩ hk ?_ hn
   simp [execOp,Instr.alloc,hzr,newVar,newRow,hcs]
  ·rw [hc] at h; exact h.elim
 ·exact h.elim
theorem qto (hR:Rel n fr a) (hB:Bx n fr m) {t:TypeId} {x:Operand} (h:wr P T G n fr m dst ty k (.box t x)):Does P n a m ⟨dst,.box t x,ty,pos,after,guard⟩ k:=by
 intro w hw next Q hn
 subst hw
 simp only [wr] at h
 split at h
 ·rename_i l hl
  split at h
  ·rename_i fr1 hesc
   obtain ⟨hR1,hB1⟩:=q6h hesc hR hB
   obtain ⟨hk,hc⟩:=q6w hl
   obtain ⟨fr',x',hR',hB',hx,hk'⟩:=qqg hR1 hB1 h
   refine q36 (w:=w) (x:=x') (v:=.pointer (some ⟨w.heap.size,0,none⟩)) (w':={ w with heap:=w.heap.push (.cells (vals l) t) }) hR' hB' hx ⟨rfl,rfl,rfl⟩ hk' ?_ hn
   simp [execOp,Instr.box,newVar,newRow,hR.eq rfl hk,hc,vals]
  ·exact h.elim
 ·exact h.elim
theorem qqq (hR:Rel n fr a) (hB:Bx n fr m) {fn:Fn} {first captured:Array Operand} (h:wr P T G n fr m dst ty k (.makeFunc fn first captured)):Does P n a m ⟨dst,.makeFunc fn first captured,ty,pos,after,guard⟩ k:=by
 intro w hw next Q hn
 subst hw
 simp only [wr] at h
 cases hc:(first.toList.all (fun x=>(ev fr x).known) && captured.toList.all (fun x=>(ev fr x).known))
 ·rw [hc] at h; exact h.elim
 ·rw [hc] at h
  simp only [Bool.and_eq_true] at hc
  obtain ⟨h1,h2⟩:=hc
  have e1:(first.toList.map fun x=>(ev fr x).v).toArray=first.map a.eval:=by
   apply Array.toList_inj.1; simp [qed hR h1]
  have e2:(captured.toList.map fun x=>(ev fr x).v).toArray=captured.map a.eval:=by
   apply Array.toList_inj.1; simp [qed hR h2]
  simp only [cond_true] at h
  split at h
  ·rename_i fr1 hesc
   obtain ⟨hR1,hB1⟩:=q6h hesc hR hB
   refine q36 (w:=w) (w':=w) hR1 hB1 (v:=.func fn (first.map a.eval) (captured.map a.eval)) ?_ (Same.refl w) h ?_ hn
   ·show Value.func fn (first.map a.eval) (captured.map a.eval)=Value.func fn _ _
    rw [e1,e2]
   ·simp [execOp,Instr.makeFunc]
  ·exact h.elim
theorem qmd (hR:Rel n fr a) (size:Nat) :
  ∀ (parts:List (Nat × Operand)) (cs:List Ce) (k:List Ce->Prop),pcells T fr size cs parts k ->
   ∃ l,k l/\Instr.fill (fun i=>some (i*size,size)) (cs.map Ce.v).toArray (parts.map fun p=>(p.1,a.eval p.2))=some (l.map Ce.v).toArray
 | [],cs,k,h=>⟨cs,h,rfl⟩
 | (i,x) :: r,cs,k,h=>by
  simp only [pcells] at h
  split at h
  ·rename_i new hnew
   cases hc:(Nat.beq new.length size && Nat.ble (i*size+new.length) cs.length)
   ·rw [hc] at h; exact h.elim
   ·rw [hc] at h
    simp only [Bool.and_eq_true] at hc
    obtain ⟨hc2,hc3⟩:=hc
    have hc2:=Nat.eq_of_beq_eq_true hc2
    have hc3:=Nat.le_of_ble_eq_true hc3
    obtain ⟨l,hk,hl⟩:=qmd hR size r (setAt cs (i*size) new) k h
    refine ⟨l,hk,?_⟩
    obtain ⟨hkn,hcells⟩:=q6w hnew
    have hx:a.eval x=(ev fr x).v:=hR.eq rfl hkn
    simp only [List.map_cons,Instr.fill,hx,hcells,List.size_toArray,List.length_map,hc2]
    rw [if_neg (by simp; omega),← hl]
    congr 1
    apply Array.ext_getElem?
    intro j
    have e1:=qq4 (new.map Ce.v) 0 (i*size) (cs.map Ce.v).toArray j
    rw [← Array.foldl_toList,Array.toList_zipIdx]
    have e2:=qee cs (i*size) new j hc3
    rw [show ((List.map Ce.v (setAt cs (i*size) new)).toArray)[j]?=((setAt cs (i*size) new)[j]?).map Ce.v by simp,e2]
    rw [e1]
    simp
    split <;> split <;> first | rfl | (exfalso; omega) | (congr 1; omega)
  ·exact h.elim
theorem qnl (hT:TOK P T) (hR:Rel n fr a) (hB:Bx n fr m) {t:TypeId} {len:Nat} {parts:Array (Nat × Operand)} (h:wr P T G n fr m dst ty k (.buildSlice t len parts)):Does P n a m ⟨dst,.buildSlice t len parts,ty,pos,after,guard⟩ k:=by
 intro w hw next Q hn
 subst hw
 simp only [wr] at h
 split at h
 ·rename_i e sh by' ht
  split at h
  ·rename_i te hte
   cases hc:(te.isT || !(Nat.ble (len*te.sh.length) 16777216))
   ·rw [hc] at h
    simp only [Bool.or_eq_false_iff,Bool.not_eq_false'] at hc
    have hle:=Nat.le_of_ble_eq_true hc.2
    have hu:=(q3b (hT.tiB ht)).1
    obtain ⟨z,hz,hzr,hzna⟩:=qb0 hT hte hc.1
    have hsz:=fun w=>q3f hT hte hc.1 w
    obtain ⟨l,hk,hl⟩:=qmd hR _ _ _ _ h
    cases hesc:escC fr l with
    | none=>rw [hesc] at hk; exact hk.elim
    | some fr1 =>
    rw [hesc] at hk
    obtain ⟨hR1,hB1⟩:=q6h hesc hR hB
    refine q36 (w:=w) (x:=.c (.s (.mk w.heap.size 0 len len))) (v:=.slice (some ⟨w.heap.size,0,none⟩) len len) (w':={ w with heap:=w.heap.push (.cells (vals l) e) }) hR1 (hB1.push _) rfl ⟨rfl,rfl,rfl⟩ hk ?_ hn
    have hpp:(parts.map fun p=>(p.1,a.eval p.2)).toList=parts.toList.map fun p=>(p.1,a.eval p.2):=by simp
    have hzz:z.cells.toList=(te.sh.map Sh.zero).map Ce.v:=by simp [hz]
    have hzl:(te.sh.map Sh.zero).length=te.sh.length:=by simp
    have hrow:=qk4 (te.sh.map Sh.zero) z.cells hzz len
    rw [hzl] at hrow
    by_cases h0:len*te.sh.length=0
    ·have hrow0:zrow (te.sh.map Sh.zero) len=[]:=by
      apply List.length_eq_zero_iff.1; rw [q7r,hzl,h0]
     rw [hrow0] at hl
     simp only [execOp,Instr.buildSlice,Sem.run_bind,run_underlying hu,Result.andThen_ok,hsz,h0]
     simp only [hpp]
     have e0:(Array.map (fun x=>(default:Value)) (Array.range 0))=#[]:=by simp
     simp at hl ⊢
     rw [e0,hl]
     simp [newRow,vals]
    ·simp only [execOp,Instr.buildSlice,Sem.run_bind,run_underlying hu,Result.andThen_ok,hsz,h0,if_false]
     have:¬ (len*te.sh.length > 2 ^ 24):=by omega
     simp only [this,if_false,hzr,Sem.run_bind,Sem.run_pure,Result.andThen_ok,hpp]
     rw [hrow]
     simp only [vals] at hl ⊢
     simp [hl,newRow]
   ·rw [hc] at h; exact h.elim
  ·exact h.elim
 ·exact h.elim
theorem qsk (hT:TOK P T) (hR:Rel n fr a) (hB:Bx n fr m) {t:TypeId} {x y:Operand} (h:wr P T G n fr m dst ty k (.store t x y)):Does P n a m ⟨dst,.store t x y,ty,pos,after,guard⟩ k:=by
 intro w hw next Q hn
 subst hw
 simp only [wr] at h
 split at h
 ·rename_i l ti hl hti
  cases hc:(ti.isT || !(Nat.beq l.length ti.sh.length))
  ·rw [hc] at h
   simp only [cond_false] at h
   simp only [Bool.or_eq_false_iff,Bool.not_eq_false'] at hc
   split at h
   ·rename_i fr1 hesc
    obtain ⟨hR1,hB1⟩:=q6h hesc hR hB
    obtain ⟨fr',b,o,hR',hB',hx,hok,hk⟩:=qs7 hR1 hB1 h
    have hlen:=Nat.eq_of_beq_eq_true hc.2
    obtain ⟨hkn,hcells⟩:=q6w hl
    have hsz:=fun w=>q3f hT hti hc.1 w
    unfold Oper.wp
    have hrun:(execOp a.eval ⟨dst,.store t x y,ty,pos,after,guard⟩).run P w=.ok .skip (w.setCells b o (l.map Ce.v)):=by
     have hst:=qg3 (P:=P) l b o w hok
     have hx':a.eval x=.pointer (some ⟨b,o,none⟩):=hx _ (hR.ev x)
     have hy':(a.eval y).cells=(l.map Ce.v).toArray:=by rw [hR.eq rfl hkn,hcells]
     simp only [execOp,Instr.storeAt,hx',Instr.sureAddr,storeVar,Sem.run_bind,Sem.run_pure,Result.andThen_ok,hsz,hy',List.size_toArray,List.length_map,hlen]
     simp [hst]
    rw [hrun]
    exact hn fr' .un undef _ (by rw [q47]; exact hk) hR' (by rw [q47]; exact hB') rfl (q7x _ _ _ _)
   ·exact h.elim
  ·rw [hc] at h; exact h.elim
 ·exact h.elim
end
end Go.Vc
end
section
/- That the writing operations and the calls run as 'wr' says: make, call, append, copy; the theorem. -/
namespace Go.Vc
variable {P:Program} {T:TT} {G:List Nat}
section
variable {n:Nat} {fr:Fr} {a:Act} {m:Mem} {k:Fr->SV->Mem->Prop} {dst:Option Tmp} {ty:TypeId} {pos:String} {after:Array Edge} {guard:Option (Nat × Bool)}
theorem qpl {x:Int} (h0:-9223372036854775808<=x) (h1:x<=9223372036854775807):IntKind.i64.wrap x=x:=by
 have e1:((2:Int) ^ IntKind.i64.bits)=18446744073709551616:=by decide
 have e2:((2:Int) ^ (IntKind.i64.bits - 1))=9223372036854775808:=by decide
 have e3:IntKind.i64.signed=true:=rfl
 simp only [IntKind.wrap,e1,e2,e3,Bool.true_and,decide_eq_true_eq]
 split <;> omega
theorem q07 {x:Int} (h0:-9223372036854775808<=x) (h1:x<=9223372036854775807):w64 x=x:=qpl h0 h1
theorem qp1 (hT:TOK P T) (hR:Rel n fr a) (hB:Bx n fr m) {t:TypeId} {x y:Operand} (h:wr P T G n fr m dst ty k (.makeSlice t x y)):Does P n a m ⟨dst,.makeSlice t x y,ty,pos,after,guard⟩ k:=by
 intro w hw next Q hn
 subst hw
 simp only [wr] at h
 split at h
 ·rename_i e sh by' l c ht hx hy
  split at h
  ·rename_i te hte
   cases hc:te.isT
   ·rw [hc] at h
    obtain ⟨h0,h1,h2,h3,hk⟩:=h
    have hu:=(q3b (hT.tiB ht)).1
    obtain ⟨z,hz,hzr,hzna⟩:=qb0 hT hte hc
    obtain ⟨ti,hb,hsz',htr,_⟩:=qjn hT hte hc
    have hsz:=fun w=>q3f hT hte hc w
    refine q36 (w:=w) (x:=.c (.s (.mk w.heap.size 0 l.toNat c.toNat))) (v:=.slice (some ⟨w.heap.size,0,none⟩) l.toNat c.toNat) (w':={ w with heap:=w.heap.push (.cells (vals (zrow (te.sh.map Sh.zero) c.toNat)) e) }) hR (hB.push _) rfl ⟨rfl,rfl,rfl⟩ hk ?_ hn
    have hzz:z.cells.toList=(te.sh.map Sh.zero).map Ce.v:=by simp [hz]
    have hzl:(te.sh.map Sh.zero).length=te.sh.length:=by simp
    have hrow:=qk4 (te.sh.map Sh.zero) z.cells hzz c.toNat
    rw [hzl] at hrow
    have hx':a.eval x=.int .i64 l:=hR.eq hx rfl
    have hy':a.eval y=.int .i64 c:=hR.eq hy rfl
    have hwl:IntKind.i64.wrap l=l:=qpl (by omega) (by omega)
    have hwc:IntKind.i64.wrap c=c:=qpl (by omega) (by omega)
    have hn1:¬ c < 0:=by omega
    have hn2:¬ ((te.bytes:Int)*c > 2 ^ 48):=by
     have:(2:Int) ^ 48=281474976710656:=by decide
     omega
    have hn3:¬ l < 0:=by omega
    have hn4:¬ l > c:=by omega
    simp only [execOp,Instr.makeSlice,Sem.run_bind,run_underlying hu,Result.andThen_ok,asInt,asIntOf,hx',hy',Sem.run_pure,htr,hwl,hwc,hb]
    simp only [hn1,hn2,hn3,hn4,decide_false,Bool.or_false,Bool.false_eq_true,if_false]
    simp only [Sem.run_bind,Sem.run_pure,Result.andThen_ok,run_askRoom,hsz]
    by_cases hz0:c.toNat*te.sh.length=0
    ·have hrow0:zrow (te.sh.map Sh.zero) c.toNat=[]:=by
      apply List.length_eq_zero_iff.1; rw [q7r,hzl,hz0]
     rw [hrow0]
     have e0:(Array.map (fun x=>(default:Value)) (Array.range 0))=#[]:=by simp
     simp [hz0,newRow,vals]
     rw [e0]
    ·simp only [hz0,if_false,Sem.run_bind,hzr,Result.andThen_ok,Sem.run_pure]
     rw [hrow]
     simp [newRow]
   ·rw [hc] at h; exact h.elim
  ·exact h.elim
 ·exact h.elim
theorem qn0:∀ {sh:List Sh} {k:List Ce->Prop},exC sh k->∃ l,k l
 | [],_,h=>⟨_,h⟩
 | _ :: _,_,⟨x,h⟩=>let ⟨_,hl⟩:=qn0 h; ⟨_,hl⟩
theorem qgx:∀ {ts:List Nat} {k:List AV->Prop},exT T ts k->∃ l,k l
 | [],_,h=>⟨_,h⟩
 | t :: ts,k,h=>by
  simp only [exT] at h
  split at h
  ·obtain ⟨l,hl⟩:=qn0 h
   obtain ⟨l',hl'⟩:=qgx hl
   exact ⟨_,hl'⟩
  ·obtain ⟨x,hx⟩:=h
   obtain ⟨l',hl'⟩:=qgx hx
   exact ⟨_,hl'⟩
  ·obtain ⟨x,hx⟩:=h
   obtain ⟨l',hl'⟩:=qgx hx
   exact ⟨_,hl'⟩
  ·exact h.elim
theorem qth {t:Nat} {v:Value} {k:SV->Prop} (h:resC T t v k):∃ x:SV,x.Is v/\k x:=by
 unfold resC at h
 split at h
 ·exact ⟨.top,trivial,h⟩
 ·obtain ⟨l,hv,hk⟩:=qgx h; exact ⟨.tup l,hv,hk⟩
 ·obtain ⟨l,hv,hk⟩:=qn0 h; exact ⟨.agg l,hv,hk⟩
 ·rename_i s _ _; obtain ⟨x,hv,hk⟩:=h; exact ⟨.c (s.mk x),hv,hk⟩
 ·obtain ⟨x,hv,hk⟩:=h; exact ⟨.c (.s x),hv,hk⟩
 ·exact h.elim
theorem qoz (hG:GOK P G) (hR:Rel n fr a) {fr':Fr} (hR':Rel n fr' a) (hB':Bx n fr' m) {f:Operand} {args:Array Operand} {ts:Array TypeId} {g:Nat} {first captured:Array Value} (hf':a.eval f=.func (.func g) first captured)
  (hgG:G.elem g=true) (hkn:args.toList.all (fun x=>(ev fr x).known)=true)
  (h:q08 P g (first.toList ++ (args.toList.map fun x=>(ev fr x).v) ++ captured.toList) m fun v m'=>samC (trk n fr' []) m m' (resC T ty v fun x=>k fr' x m')) :
  Does P n a m ⟨dst,.call ⟨.value f,args,ts⟩,ty,pos,after,guard⟩ k:=by
 intro w hw next Q hn
 subst hw
 have hg:qjc P g=true:=List.all_eq_true.1 hG g (by simpa using hgG)
 have hargs:args.map a.eval=(args.toList.map fun x=>(ev fr x).v).toArray:=by
  apply Array.toList_inj.1; simp [← qed hR hkn]
 unfold qjc at hg
 split at hg
 ·rename_i fn hfn
  simp only [Bool.and_eq_true,Bool.not_eq_true'] at hg
  have hbody:fn.body.isNone=false:=by cases hb:fn.body <;> simp_all
  have hrun:(execOp a.eval ⟨dst,.call ⟨.value f,args,ts⟩,ty,pos,after,guard⟩).run P w =
    .ok (.enter g (first.toList ++ (args.toList.map fun x=>(ev fr x).v) ++ captured.toList).toArray) w:=by
   simp only [execOp,resolve,hf',hargs,Deferred.ofValue,Sem.run_bind,Sem.run_pure,Result.andThen_ok,invoke,callFunc,run_program,hfn,hg.1,hbody,Bool.false_eq_true,if_false]
   simp
  unfold Oper.wp
  rw [hrun]
  show Calls P g _ w _
  refine (h w rfl).mono ?_
  rintro e w' ⟨v,rfl,hs,hres⟩
  obtain ⟨hsam,hres⟩:=q4h hres
  obtain ⟨x,hx,hk⟩:=qth hres
  exact hn fr' x v w' hk hR' (hB'.sam hsam) hx hs
 ·simp at hg
theorem qtd (hG:GOK P G) (hR:Rel n fr a) (hB:Bx n fr m) {f:Operand} {args:Array Operand} {ts:Array TypeId} (h:wr P T G n fr m dst ty k (.call ⟨.value f,args,ts⟩)):Does P n a m ⟨dst,.call ⟨.value f,args,ts⟩,ty,pos,after,guard⟩ k:=by
 simp only [wr,callC] at h
 split at h
 ·exact h.elim
 rename_i fr1 hesc
 obtain ⟨hR1,hB1⟩:=q6h hesc hR hB
 split at h
 ·rename_i g first captured hf
  cases hc:(G.elem g && args.toList.all (fun x=>(ev fr x).known))
  ·rw [hc] at h; exact h.elim
  ·rw [hc] at h
   simp only [Bool.and_eq_true] at hc
   exact qoz hG hR hR1 hB1 (hR.eq hf rfl) hc.1 hc.2 h
 ·rename_i q hf
  cases hc:(args.toList.all (fun x=>(ev fr x).known))
  ·rw [hc] at h; exact h.elim
  ·rw [hc] at h
   obtain ⟨g,hg,hgG,h⟩:=h
   have hv:a.eval f=.func (.func g) q.2.1 q.2.2:=by
    rw [← hg]; exact hR.eq hf rfl
   exact qoz hG hR hR1 hB1 hv hgG hc h
 ·exact h.elim
theorem q9j {t:TypeId} (hu:P.underlying t=some (.int .i64)) (e:Bool) (x:Int) (w:World):(Instr.checkKey e 10000 t (.int .i64 x)).run P w=.ok () w:=by
 have:Instr.checkKey e 10000 t (.int .i64 x)=Instr.checkKey e (9999+1) t (.int .i64 x):=rfl
 rw [this]
 generalize 9999=d
 simp [Instr.checkKey,run_underlying hu]
theorem qev (x:Int):∀ (es:List MapEntry) (l:List (Int × Int)) (i:Nat),es.map (fun e=>(e.key,e.val))=l.map (fun p=>(Value.int .i64 p.1,Value.int .i64 p.2)) ->
  (Instr.findNow (.int .i64) (.int .i64 x) es i=some none/\mget l x=0/\(∀ v,mput l x v=l ++ [(x,v)])) \/
  ∃ j u,Instr.findNow (.int .i64) (.int .i64 x) es i=some (some (i+j,.int .i64 u))/\mget l x=u/\j < es.length/\l[j]?=some (x,u)/\∀ v,mput l x v=l.set j (x,v)
 | [],[],i,_=>Or.inl ⟨rfl,rfl,fun v=>rfl⟩
 | [],_ :: _,i,h=>by simp at h
 | _ :: _,[],i,h=>by simp at h
 | e :: es,(j,u) :: l,i,h=>by
  simp only [List.map_cons,List.cons.injEq,Prod.mk.injEq] at h
  obtain ⟨⟨hk,hv⟩,h⟩:=h
  have hs:Instr.sameNow (.int .i64) (.int .i64 x) e.key=some (x == j):=by rw [hk]; simp [Instr.sameNow]
  by_cases hx:x=j
  ·subst hx
   refine Or.inr ⟨0,u,?_,?_,by simp,by simp,?_⟩
   ·simp [Instr.findNow,hs,hv]
   ·simp [mget]
   ·intro v; simp [mput]
  ·have hb:(x == j)=false:=by simpa using hx
   rcases qev x es l (i+1) h with ⟨h1,h2,h3⟩ | ⟨q,r,h1,h2,h3,h4,h5⟩
   ·refine Or.inl ⟨?_,?_,?_⟩
    ·simp [Instr.findNow,hs,hb,h1]
    ·simp [mget,hx,h2]
    ·intro v; simp [mput,hx,h3]
   ·refine Or.inr ⟨q+1,r,?_,?_,by simpa using h3,by simpa using h4,?_⟩
    ·have e1:i+1+q=i+(q+1):=by omega
     simp [Instr.findNow,hs,hb,h1,e1]
    ·simp [mget,hx,h2]
    ·intro v; simp [mput,hx,h5]
theorem qrn (hR:Rel n fr a) (hB:Bx n fr m) {t:TypeId} {r:Option Operand} (h:wr P T G n fr m dst ty k (.makeMap t r)):Does P n a m ⟨dst,.makeMap t r,ty,pos,after,guard⟩ k:=by
 intro w hw next Q hn
 subst hw
 cases r with
 | some r=>exact h.elim
 | none =>
  refine q36 (w:=w) (x:=.c (.mp w.heap.size)) (v:=.map (some w.heap.size)) (w':={ w with heap:=w.heap.push (.map #[] 0) }) hR (hB.push _) rfl ⟨rfl,rfl,rfl⟩ h ?_ hn
  simp [execOp,Instr.makeMap]
theorem qrs (hT:TOK P T) (hR:Rel n fr a) (hB:Bx n fr m) {t:TypeId} {x y:Operand} {ok:Bool} (h:wr P T G n fr m dst ty k (.lookup t x y ok)):Does P n a m ⟨dst,.lookup t x y ok,ty,pos,after,guard⟩ k:=by
 intro w hw next Q hn
 subst hw
 cases ok with
 | true=>exact h.elim
 | false =>
  simp only [wr] at h
  split at h
  ·rename_i kt et sh by' b n0 ht hx hy
   split at h
   ·rename_i b1 b2 hkt het
    obtain ⟨l,⟨es,clock,hes,hel⟩,hk⟩:=h
    have hu:=(qcn (hT.tiB ht)).1
    obtain ⟨⟨d,hd,hp⟩,_⟩:=q8k (hT.tiB hkt)
    have hdi:d=.int .i64:=by
     unfold plainB at hp
     split at hp <;> simp_all
    subst hdi
    obtain ⟨z,hz,hzr,hzna⟩:=qb0 hT het rfl
    have hz0:z=.int .i64 0:=by
     have:z.cells.toList=[Value.int .i64 0]:=hz
     have hna:=hzna rfl
     cases z <;> first | (simp [Value.cells] at this; done) | (simp [Value.cells] at this; rw [this.1,this.2]) | exact absurd rfl (hna _)
    have hx':a.eval x=.map (some b):=hR.eq hx rfl
    have hy':a.eval y=.int .i64 n0:=hR.eq hy rfl
    have hgo:(getObj b).run P w=.ok (.map es clock) w:=by simp [getObj,Sem.run,hes]
    refine q36 (w:=w) (x:=.c (.i (mget l n0))) (v:=.int .i64 (mget l n0)) (w':=w) hR hB rfl (Same.refl w) hk ?_ hn
    rcases qev n0 es.toList l 0 hel with ⟨h1,h2,_⟩ | ⟨j,u,h1,h2,_⟩
    ·simp [execOp,Instr.lookup,run_underlying hu,hx',hy',hgo,q9j hd,Instr.findKey,run_underlying hd,h1,hzr,hz0,h2]
    ·simp [execOp,Instr.lookup,run_underlying hu,hx',hy',hgo,q9j hd,Instr.findKey,run_underlying hd,h1,h2]
   ·exact h.elim
  ·exact h.elim
theorem qpi (hT:TOK P T) (hR:Rel n fr a) (hB:Bx n fr m) {t:TypeId} {x y z:Operand} (h:wr P T G n fr m dst ty k (.mapUpdate t x y z)):Does P n a m ⟨dst,.mapUpdate t x y z,ty,pos,after,guard⟩ k:=by
 intro w hw next Q hn
 subst hw
 simp only [wr] at h
 split at h
 ·rename_i kt et sh by' b n0 v0 ht hx hy hz
  split at h
  ·rename_i b1 hkt
   obtain ⟨l,⟨es,clock,hes,hel⟩,hk⟩:=h
   have hu:=(qcn (hT.tiB ht)).1
   obtain ⟨⟨d,hd,hp⟩,_⟩:=q8k (hT.tiB hkt)
   have hdi:d=.int .i64:=by
    unfold plainB at hp
    split at hp <;> simp_all
   subst hdi
   have hx':a.eval x=.map (some b):=hR.eq hx rfl
   have hy':a.eval y=.int .i64 n0:=hR.eq hy rfl
   have hz':a.eval z=.int .i64 v0:=hR.eq hz rfl
   have hgo:(getObj b).run P w=.ok (.map es clock) w:=by simp [getObj,Sem.run,hes]
   have hso:∀ o,(setObj b o).run P w=.ok () { w with heap:=w.heap.setIfInBounds b o }:=fun o=>by simp [setObj,Sem.run,hes]
   have hblt:b < w.heap.size:=(Array.getElem?_eq_some_iff.1 hes).1
   unfold Oper.wp
   rcases qev n0 es.toList l 0 hel with ⟨h1,h2,h3⟩ | ⟨j,u,h1,h2,h3,h4,h5⟩
   ·have hrun:(execOp a.eval ⟨dst,.mapUpdate t x y z,ty,pos,after,guard⟩).run P w=.ok .skip { w with heap:=w.heap.setIfInBounds b (.map (es.push { key:=.int .i64 n0,val:=.int .i64 v0,born:=clock }) (clock+1)) }:=by
     simp [execOp,Instr.mapUpdate,run_underlying hu,hx',hy',hz',hgo,q9j hd,Instr.findKey,run_underlying hd,h1,hso]
    rw [hrun]
    have hk':=q4h (hk { w with heap:=w.heap.setIfInBounds b (.map (es.push { key:=.int .i64 n0,val:=.int .i64 v0,born:=clock }) (clock+1)) }.heap ?_ (by simp) ?_)
    ·exact hn fr .un undef _ hk'.2 hR (hB.sam hk'.1) rfl ⟨rfl,rfl,rfl⟩
    ·refine ⟨_,_,by simp [hblt]; exact ⟨rfl,rfl⟩,?_⟩
     rw [h3]; simp [hel]
    ·intro j hj; simp [Array.getElem?_setIfInBounds_ne (Ne.symm hj)]
   ·have hkey:(es[j]?).map (·.key)=some (.int .i64 n0):=by
     have:=congrArg (fun q=>(q[j]?).map (·.1)) hel
     simpa [h4] using this
    have hkt':(Instr.keyThatStays (.int .i64 n0) (.int .i64 n0)).run P w=.ok (.int .i64 n0) w:=by
     simp [Instr.keyThatStays,Instr.sameBits]
    have hrun:(execOp a.eval ⟨dst,.mapUpdate t x y z,ty,pos,after,guard⟩).run P w=.ok .skip { w with heap:=w.heap.setIfInBounds b (.map (es.modify j fun e=>{ e with key:=.int .i64 n0,val:=.int .i64 v0 }) clock) }:=by
     simp only [execOp,Instr.mapUpdate,run_underlying hu,hx',hy',hz',hgo,q9j hd,Instr.findKey,run_underlying hd,h1,Sem.run_bind,Result.andThen_ok,Sem.run_pure,Nat.zero_add,hkey,Option.getD_some,hkt',hso]
    rw [hrun]
    have hk':=q4h (hk { w with heap:=w.heap.setIfInBounds b (.map (es.modify j fun e=>{ e with key:=.int .i64 n0,val:=.int .i64 v0 }) clock) }.heap ?_ (by simp) ?_)
    ·exact hn fr .un undef _ hk'.2 hR (hB.sam hk'.1) rfl ⟨rfl,rfl,rfl⟩
    ·refine ⟨_,_,by simp [hblt]; exact ⟨rfl,rfl⟩,?_⟩
     rw [h5]
     apply List.ext_getElem?
     intro q
     have hq:=congrArg (fun (q':List (Value × Value))=>q'[q]?) hel
     simp only [List.getElem?_map] at hq
     simp only [List.getElem?_map,List.getElem?_set,Array.getElem?_toList,Array.getElem?_modify] at hq ⊢
     by_cases hjq:j=q
     ·subst hjq
      have hjl:j < l.length:=(List.getElem?_eq_some_iff.1 h4).1
      have hje:j < es.size:=by simpa using h3
      simp [hjl,hje]
     ·simp only [hjq,if_false]
      exact hq
    ·intro j hj; simp [Array.getElem?_setIfInBounds_ne (Ne.symm hj)]
  ·exact h.elim
 ·exact h.elim
theorem qa4 (l:List Ce) (z:Sl) (c size:Nat) (hl:l.length=c*size) (w:World) (h:rowIs w.heap z.blk z.off l) (hz:c<=z.len) :
  (Builtin.firstCells size c z.v).run P w=.ok (vals l) w:=by
 cases z with
 | nil =>
  have hc0:c=0:=by simp at hz; omega
  have:l=[]:=List.length_eq_zero_iff.1 (by rw [hl,hc0]; simp)
  subst this
  simp [Builtin.firstCells,Sl.v,vals]
 | emp b0 o0 sp =>
  have hc0:c=0:=by simp at hz; omega
  have:l=[]:=List.length_eq_zero_iff.1 (by rw [hl,hc0]; simp)
  subst this
  simp [Builtin.firstCells,Sl.v,vals,hc0,loadCells,loadCellsFrom]
 | mk b o len cap =>
  simp only [Builtin.firstCells,Sl.v,← hl]
  exact qs2 l b o w h
theorem qqw (zs:List Ce) (z:Array Value) (hz:z.toList=zs.map Ce.v) (n:Nat):Builtin.zeroCells z n=vals (zrow zs n):=by
 have hs:z.size=zs.length:=by rw [← Array.length_toList,hz]; simp
 rw [← qk4 zs z hz n,Builtin.zeroCells,hs]
theorem qsa (l r:List Ce):vals (l ++ r)=vals l ++ vals r:=by simp [vals]
theorem qrt (hT:TOK P T) (hR:Rel n fr a) (hB:Bx n fr m) {args:Array Operand} {ts:Array TypeId} (h:wr P T G n fr m dst ty k (.call ⟨.builtin .append,args,ts⟩)):Does P n a m ⟨dst,.call ⟨.builtin .append,args,ts⟩,ty,pos,after,guard⟩ k:=by
 intro w hw next Q hn
 subst hw
 simp only [wr] at h
 split at h
 ·rename_i x y t u hargs hts
  split at h
  ·rename_i e sh by' e2 sh2 by2 s z ht hu2 hx hy
   split at h
   ·rename_i te hte
    cases hc:(te.isT || Nat.beq te.bytes 0)
    ·rw [hc] at h
     simp only [Bool.or_eq_false_iff] at hc
     obtain ⟨new,hnl,hnr,hfit,hgrow⟩:=h
     have e1:args=#[x,y]:=Array.toList_inj.1 (by simpa using hargs)
     have e2':ts=#[t,u]:=Array.toList_inj.1 (by simpa using hts)
     subst e1; subst e2'
     have hu:=(q3b (hT.tiB ht)).1
     have hu':=(q3b (hT.tiB hu2)).1
     obtain ⟨zv,hz,hzr,hzna⟩:=qb0 hT hte hc.1
     obtain ⟨ti,hb,hsz',htr,_⟩:=qjn hT hte hc.1
     have hsz:=fun w=>q3f hT hte hc.1 w
     have hx':a.eval x=s.v:=hR.eq hx rfl
     have hy':a.eval y=z.v:=hR.eq hy rfl
     have hlz:(Builtin.lenOf z.v).run P w=.ok z.len w:=by cases z <;> simp [Builtin.lenOf,Sl.v,Sl.len]
     have hzl:(te.sh.map Sh.zero).length=te.sh.length:=by simp
     rw [hzl] at hnl
     simp only [hzl] at hfit hgrow
     have hfirst:∀ w':World,w'.heap=w.heap->(Builtin.firstCells te.sh.length z.len z.v).run P w'=.ok (vals new) w':=fun w' hw' =>
      qa4 new z z.len te.sh.length hnl w' (by rw [hw']; exact hnr) (Nat.le_refl _)
     have hsv:=s.v_base
     by_cases hle:s.len+z.len<=s.cap
     ·obtain ⟨hok,hk⟩:=hfit hle
      cases s with
      | nil =>
       simp only [Sl.len_nil,Sl.cap_nil] at hle hok hk
       have hz0:z.len=0:=by omega
       have:new=[]:=List.length_eq_zero_iff.1 (by rw [hnl,hz0]; simp)
       subst this
       obtain ⟨hsam,hk⟩:=q4h hk
       refine q36 (w:=w) (x:=.c (.s .nil)) (v:=.slice none 0 0) (w':=w) hR hB rfl (Same.refl w) hk ?_ hn
       have hx2:a.eval x=.slice none 0 0:=hx'
       have hf0:=hfirst w rfl
       simp only [execOp,resolve,Sem.run_bind,Sem.run_pure,Result.andThen_ok,invoke,builtin,Builtin.append_,List.map_toArray,List.map_cons,List.map_nil,hx2,hy']
       rw [hz0] at hlz hf0
       simp [run_underlying hu,run_underlying hu',hsz,hlz,hf0]
      | emp b0 o0 sp =>
       simp only [Sl.len_emp,Sl.cap_emp] at hle hok hk
       have hz0:z.len=0:=by omega
       have:new=[]:=List.length_eq_zero_iff.1 (by rw [hnl,hz0]; simp)
       subst this
       obtain ⟨hsam,hk⟩:=q4h hk
       refine q36 (w:=w) (x:=.c (.s (.emp b0 o0 sp))) (v:=.slice (some ⟨b0,o0,some sp⟩) 0 0) (w':=w) hR hB rfl (Same.refl w) hk ?_ hn
       have hx2:a.eval x=.slice (some ⟨b0,o0,some sp⟩) 0 0:=hx'
       have hf0:=hfirst w rfl
       simp only [execOp,resolve,Sem.run_bind,Sem.run_pure,Result.andThen_ok,invoke,builtin,Builtin.append_,List.map_toArray,List.map_cons,List.map_nil,hx2,hy']
       rw [hz0] at hlz hf0
       simp [run_underlying hu,run_underlying hu',hsz,hlz,hf0,vals,storeCells]
      | mk b o len cap =>
       simp only [Sl.len_mk,Sl.cap_mk,Sl.blk_mk,Sl.off_mk] at hle hok hk
       obtain ⟨hsam,hk⟩:=q4h hk
       refine q36 (w:=w) (x:=.c (.s (.mk b o (len+z.len) cap))) (v:=.slice (some ⟨b,o,none⟩) (len+z.len) cap) (w':=w.setCells b (o+len*te.sh.length) (new.map Ce.v)) hR (by rw [q47]; exact hB.sam hsam) rfl (q7x _ _ _ _) (by rw [q47]; exact hk) ?_ hn
       have hst:=qg3 (P:=P) new b (o+len*te.sh.length) w hok
       have hx2:a.eval x=.slice (some ⟨b,o,none⟩) len cap:=hx'
       simp only [execOp,resolve,Sem.run_bind,Sem.run_pure,Result.andThen_ok,invoke,builtin,Builtin.append_,List.map_toArray,List.map_cons,List.map_nil,hx2,hy']
       simp [run_underlying hu,run_underlying hu',hsz,hlz,hle,hfirst w rfl,qa9,vals,hst]
     ·obtain ⟨hbound,old,hol,hor,hk⟩:=hgrow (by omega)
      have hfits:=growslice_fits (need:=s.len+z.len) (old:=s.cap) (bytes:=te.bytes) (by omega) hbound
      have hb0:te.bytes ≠ 0:=fun e=>by rw [e] at hc; simp at hc
      have hmax:¬ (((s.len+z.len:Nat):Int) > IntKind.i64.max/\te.bytes=0):=fun hh=>hb0 hh.2
      have hold:∀ w':World,w'.heap=w.heap->(Builtin.firstCells te.sh.length s.len s.v).run P w'=.ok (vals old) w':=fun w' hw' =>
       qa4 old s s.len te.sh.length hol w' (by rw [hw']; exact hor) (Nat.le_refl _)
      let q:Question:=.appendCap (s.len+z.len) s.cap e
      let nc:=q.cut (w.tape w.drawn q)
      let w1:World:={ w with drawn:=w.drawn+1 }
      have hnc:s.len+z.len<=nc:=Nat.le_add_right _ _
      refine q36 (w:=w) (x:=.c (.s (.mk w.heap.size 0 (s.len+z.len) nc))) (v:=.slice (some ⟨w.heap.size,0,none⟩) (s.len+z.len) nc)
       (w':={ w1 with heap:=w.heap.push (.cells (vals (old ++ new ++ zrow (te.sh.map Sh.zero) (nc - (s.len+z.len)))) e) }) hR (hB.push _) rfl ⟨rfl,rfl,rfl⟩ (q4h (hk nc hnc)).2 ?_ hn
      have hzz:zv.cells.toList=(te.sh.map Sh.zero).map Ce.v:=by simp [hz]
      have hze:=qqw (te.sh.map Sh.zero) zv.cells hzz (nc - (s.len+z.len))
      have hfo:q.forced=false:=rfl
      have hnot:¬ (Builtin.nextslicecap (s.len+z.len) s.cap*te.bytes > 2 ^ 48):=by
       have:(2:Nat) ^ 48=281474976710656:=by decide
       omega
      simp only [execOp,resolve,Sem.run_bind,Sem.run_pure,Result.andThen_ok,invoke,builtin,Builtin.append_,List.map_toArray,List.map_cons,List.map_nil,hx',hy']
      have ho1:=hold w1 rfl
      have hn1:=hfirst w1 rfl
      rw [hsv] at ho1 ⊢
      simp only [List.getElem?_toArray,List.getElem?_cons_zero,List.getElem?_cons_succ,Sem.run_bind,run_underlying hu,run_underlying hu',Result.andThen_ok,hsz,Sem.run_pure,hlz,Bool.false_eq_true,if_false,hle,htr,hb,false_or]
      simp only [hb0,and_false,if_false,hnot,Sem.run_bind,run_choose,hfo,Bool.false_eq_true,Result.andThen_ok,htr,run_askRoom,ho1,Bool.not_false,if_true,hn1,hzr,hze,newRow,run_newObj,Sem.run_pure]
      simp [qsa]
      rw [hb,if_neg (by omega),if_neg (show ¬ (Question.appendCap (s.len+z.len) s.cap e).forced=true by simp [Question.forced])]
      have ho2:(Builtin.firstCells te.sh.length s.len (Value.slice s.base s.len s.cap)).run P w.drew=.ok (vals old) w.drew:=ho1
      have hn2:(Builtin.firstCells te.sh.length z.len z.v).run P w.drew=.ok (vals new) w.drew:=hn1
      simp only [htr,Result.andThen_ok,ho2,hn2,hzr]
      have hze':Builtin.zeroCells zv.cells ((Question.appendCap (s.len+z.len) s.cap e).cut (w.tape w.drawn (Question.appendCap (s.len+z.len) s.cap e)) - (s.len+z.len))=vals (zrow (te.sh.map Sh.zero) (nc - (s.len+z.len))):=hze
      rw [hze']
      rfl
    ·rw [hc] at h; exact h.elim
   ·exact h.elim
  ·exact h.elim
 ·exact h.elim
end
end Go.Vc
end
