/- Part of a proof, joined by a program: VcJ VcK VcL VcM VcN VcO VcP VcQ VcR Rep Dat Tab Cn00 Cn01. -/
import Derived.OrdersHeld
import Derived.Test.YtpggcodlaajceaaGreatProg
import Derived.Test.YtpggcodlaajceaaGreatU00
set_option linter.unusedVariables false
set_option linter.unusedSimpArgs false
section
/- That the writing operations run as 'wr' says: copy, and the theorem. -/
namespace Go.Vc
variable {P:Program} {T:TT} {G:List Nat}
section
variable {n:Nat} {fr:Fr} {a:Act} {m:Mem} {k:Fr->SV->Mem->Prop} {dst:Option Tmp} {ty:TypeId} {pos:String} {after:Array Edge} {guard:Option (Nat × Bool)}
theorem qt4 (hT:TOK P T) (hR:Rel n fr a) (hB:Bx n fr m) {args:Array Operand} {ts:Array TypeId} (h:wr P T G n fr m dst ty k (.call ⟨.builtin .copy,args,ts⟩)):Does P n a m ⟨dst,.call ⟨.builtin .copy,args,ts⟩,ty,pos,after,guard⟩ k:=by
 intro w hw next Q hn
 subst hw
 simp only [wr] at h
 split at h
 ·rename_i x y t ts' hargs hts
  split at h
  ·rename_i e sh by' s z ht hx hy
   split at h
   ·rename_i te hte
    cases hc:te.isT
    ·rw [hc] at h
     obtain ⟨new,hnl,hnr,hok,hk⟩:=h
     obtain ⟨hsam,hk⟩:=q4h hk
     have e1:args=#[x,y]:=Array.toList_inj.1 (by simpa using hargs)
     subst e1
     have ht0:ts[0]?=some t:=by rw [← Array.getElem?_toList,hts]; rfl
     have hu:=(q3b (hT.tiB ht)).1
     have hsz:=fun w=>q3f hT hte hc w
     have hx':a.eval x=s.v:=hR.eq hx rfl
     have hy':a.eval y=z.v:=hR.eq hy rfl
     have hlz:(Builtin.lenOf z.v).run P w=.ok z.len w:=by cases z <;> simp [Builtin.lenOf,Sl.v,Sl.len]
     have hfirst:(Builtin.firstCells te.sh.length (Nat.min z.len s.len) z.v).run P w=.ok (vals new) w :=
      qa4 new z _ te.sh.length hnl w hnr (Nat.min_le_left _ _)
     refine q36 (w:=w) (x:=.c (.i (Nat.min z.len s.len:Nat))) (v:=.int .i64 (Nat.min z.len s.len:Nat)) (w':=w.setCells s.blk s.off (new.map Ce.v)) hR (by rw [q47]; exact hB.sam hsam) rfl (q7x _ _ _ _) (by rw [q47]; exact hk) ?_ hn
     cases s with
     | nil =>
      have hmin:Nat.min z.len Sl.nil.len=0:=by simp
      have:new=[]:=List.length_eq_zero_iff.1 (by rw [hnl,hmin]; simp)
      subst this
      have hx2:a.eval x=.slice none 0 0:=hx'
      simp only [Sl.len_nil] at hfirst ⊢
      simp only [execOp,resolve,Sem.run_bind,Sem.run_pure,Result.andThen_ok,invoke,builtin,Builtin.copy_,List.map_toArray,List.map_cons,List.map_nil,hx2,hy',ht0]
      simp only [List.getElem?_toArray,List.getElem?_cons_zero,List.getElem?_cons_succ,Sem.run_bind,run_underlying hu,Result.andThen_ok,hlz,hsz,hfirst,Sem.run_pure]
      rfl
     | emp b0 o0 sp =>
      have hmin:Nat.min z.len (Sl.emp b0 o0 sp).len=0:=by simp
      have:new=[]:=List.length_eq_zero_iff.1 (by rw [hnl,hmin]; simp)
      subst this
      have hx2:a.eval x=.slice (some ⟨b0,o0,some sp⟩) 0 0:=hx'
      simp only [Sl.len_emp] at hfirst ⊢
      simp only [execOp,resolve,Sem.run_bind,Sem.run_pure,Result.andThen_ok,invoke,builtin,Builtin.copy_,List.map_toArray,List.map_cons,List.map_nil,hx2,hy',ht0]
      simp only [List.getElem?_toArray,List.getElem?_cons_zero,List.getElem?_cons_succ,Sem.run_bind,run_underlying hu,Result.andThen_ok,hlz,hsz,hfirst,Sem.run_pure,vals]
      rfl
     | mk b o len cap =>
      have hst:=qg3 (P:=P) new b o w hok
      have hx2:a.eval x=.slice (some ⟨b,o,none⟩) len cap:=hx'
      simp only [Sl.len_mk] at hfirst ⊢
      simp only [execOp,resolve,Sem.run_bind,Sem.run_pure,Result.andThen_ok,invoke,builtin,Builtin.copy_,List.map_toArray,List.map_cons,List.map_nil,hx2,hy',ht0]
      simp only [List.getElem?_toArray,List.getElem?_cons_zero,List.getElem?_cons_succ,Sem.run_bind,run_underlying hu,Result.andThen_ok,hlz,hsz,hfirst,Sem.run_pure,vals,hst]
      rfl
    ·rw [hc] at h; exact h.elim
   ·exact h.elim
  ·exact h.elim
 ·exact h.elim
theorem qra (hT:TOK P T) (hG:GOK P G) (hR:Rel n fr a) (hB:Bx n fr m) (o:Oper) (h:wr P T G n fr m o.dst o.type k o.op):Does P n a m o k:=by
 obtain ⟨dst,op,ty,pos,after,guard⟩:=o
 cases op with
 | alloc t=>exact qsq hT hR hB h
 | box t x=>exact qto hR hB h
 | buildSlice t len parts=>exact qnl hT hR hB h
 | store t x y=>exact qsk hT hR hB h
 | makeSlice t x y=>exact qp1 hT hR hB h
 | makeFunc fn first captured=>exact qqq hR hB h
 | makeMap t r=>exact qrn hR hB h
 | lookup t x y ok=>exact qrs hT hR hB h
 | mapUpdate t x y z=>exact qpi hT hR hB h
 | call c =>
  obtain ⟨callee,args,ts⟩:=c
  cases callee with
  | builtin bi =>
   cases bi with
   | append=>exact qrt hT hR hB h
   | copy=>exact qt4 hT hR hB h
   | _=>exact h.elim
  | value f=>exact qtd hG hR hB h
  | invoke r mm=>exact h.elim
 | _=>exact h.elim
end
end Go.Vc
end
section
/- Regions that draw their order: readings may be taken first; what is read early must stay as it is. The laws on orders. -/
namespace Go.Vc
section
variable {P:Program} {ops:Array Oper} {Q:Exit->Act->World->Prop} {md:Region.Mode} {bf:Nat->Nat->Bool}
def wpAnyL (P:Program) (md:Region.Mode) (ops:Array Oper) (Q:Exit->Act->World->Prop) (bf:Nat->Nat->Bool) (L:List (Nat × (World->Prop))):Nat->Array Bool->Act->World->Prop
 | 0,listed,a,w=>Region.ready md ops listed=[]/\Q .normal a w
 | fuel+1,listed,a,w =>
  (Region.ready md ops listed=[]->Q .normal a w) /\
  ∀ i ∈ Region.ready md ops listed,wpOp P ops Q i (fun a' w'=>(∀ x ∈ L,bf i x.1=false->x.2 w->x.2 w')/\wpAnyL P md ops Q bf L fuel (listed.setIfInBounds i true) a' w') a w
theorem qnj {L:List (Nat × (World->Prop))}:∀ (fuel:Nat) (listed:Array Bool) (a:Act) (w:World),wpAnyL P md ops Q bf L fuel listed a w->wpAny P md ops Q fuel listed a w
 | 0,_,_,_,h=>h
 | fuel+1,_,_,_,h=>⟨h.1,fun i hi=>wpOp_mono (fun a' w' h'=>qnj fuel _ a' w' h'.2) (h.2 i hi)⟩
theorem qhf {L L':List (Nat × (World->Prop))} (hL:∀ x ∈ L',x ∈ L):∀ (fuel:Nat) (listed:Array Bool) (a:Act) (w:World),wpAnyL P md ops Q bf L fuel listed a w->wpAnyL P md ops Q bf L' fuel listed a w
 | 0,_,_,_,h=>h
 | fuel+1,_,_,_,h=>⟨h.1,fun i hi=>wpOp_mono (fun a' w' h'=>⟨fun x hx=>h'.1 x (hL x hx),qhf hL fuel _ a' w' h'.2⟩) (h.2 i hi)⟩
def Closed (bf:Nat->Nat->Bool) (listed:Array Bool):Prop:=∀ i,listed.getD i false=true->∀ r,bf i r=true->listed.getD r false=true
def BfOk (md:Region.Mode) (ops:Array Oper) (bf:Nat->Nat->Bool):Prop :=
 ∀ (i r:Nat) (o:Oper),ops[i]?=some o->bf i r=true->∃ e ∈ o.after,Region.binds md e=true/\(e.on=r \/ bf e.on r=true)
theorem qdh (hbf:BfOk md ops bf) {listed:Array Bool} (hc:Closed bf listed) {j:Nat} (hj:j ∈ Region.ready md ops listed) {r:Nat} (hr:bf j r=true):listed.getD r false=true:=by
 obtain ⟨_,o,ho,hall⟩:=mem_ready.1 hj
 obtain ⟨e,he,hb,h⟩:=hbf j r o ho hr
 have h1:=hall e he hb
 rcases h with rfl | h
 ·exact h1
 ·exact hc _ h1 r h
theorem Closed.set (hbf:BfOk md ops bf) {listed:Array Bool} (hc:Closed bf listed) {j:Nat} (hj:j ∈ Region.ready md ops listed):Closed bf (listed.setIfInBounds j true):=by
 intro i hi r hr
 by_cases hij:j=i
 ·subst hij
  exact getD_set_true (qdh hbf hc hj hr)
 ·rw [getD_set_ne false hij] at hi
  exact getD_set_true (hc i hi r hr)
theorem qkf {i:Nat} {oi:Oper} {v:Value} {S:World->Prop} {L:List (Nat × (World->Prop))} (hbf:BfOk md ops bf) (hi:ops[i]?=some oi) (hsel:∀ (j:Nat) (o:Oper) cs b,ops[j]?=some o->o.op ≠ .select cs b)
  (hQ:∀ c a w,Q (.panic c) (a.put oi.dst v) w->Q (.panic c) a w) :
  ∀ (fuel:Nat) (listed:Array Bool) (a:Act) (w:World),Closed bf listed ->
   (∀ j oj,ops[j]?=some oj->j ≠ i->listed.getD j true=false->(∀ e ∈ oj.after,Region.binds md e=true->e.on ≠ i)->oi.apart ops oj=true) ->
   i ∈ Region.ready md ops listed->YieldsIf P ops S oi v a->S w ->
   wpAnyL P md ops Q bf ((i,S) :: L) fuel (listed.setIfInBounds i true) (a.put oi.dst v) w->wpAnyL P md ops Q bf L (fuel+1) listed a w:=by
 intro fuel
 induction fuel with
 | zero =>
  intro listed a w _ _ hr hy hS H
  refine ⟨fun h=>(by rw [h] at hr; cases hr),fun j hj=>?_⟩
  by_cases hji:j=i
  ·subst hji; exact hy.wpOp hi hS ⟨fun x _ _ h=>h,H⟩
  ·have:=ready_mono hj hji
   rw [H.1] at this
   cases this
 | succ fuel ih =>
  intro listed a w hcl hfree hr hy hS H
  refine ⟨fun h=>(by rw [h] at hr; cases hr),fun j hj=>?_⟩
  by_cases hji:j=i
  ·subst hji; exact hy.wpOp hi hS ⟨fun x _ _ h=>h,qhf (fun x hx=>List.mem_cons_of_mem _ hx) _ _ _ _ H⟩
  ·have h1:=H.2 j (ready_mono hj hji)
   obtain ⟨hjun,oj,hoj,hall⟩:=mem_ready.1 hj
   have hun:listed.getD i false=false:=by
    have h0:=(mem_ready.1 hr).1
    rcases Nat.lt_or_ge i listed.size with h' | h'
    ·simp [h'] at h0 ⊢; exact h0
    ·simp [Array.getElem?_eq_none h']
   have hnot:∀ e ∈ oj.after,Region.binds md e=true->e.on ≠ i:=fun e he hb heq=>by
    have h1:=hall e he hb
    rw [heq,hun] at h1
    cases h1
   have hbji:bf j i=false:=by
    cases hb:bf j i
    ·rfl
    ·have:=qdh hbf hcl hj hb
     rw [hun] at this; cases this
   have h2:=wpOp_putIf hoj (hfree j oj hoj hji hjun hnot) (fun cs b=>hsel i oi cs b hi) (fun cs b=>hsel j oj cs b hoj) hQ hy h1
   have hfree':∀ k ok,ops[k]?=some ok->k ≠ i->(listed.setIfInBounds j true).getD k true=false ->
     (∀ e ∈ ok.after,Region.binds md e=true->e.on ≠ i)->oi.apart ops ok=true:=fun k ok hk hki hun hno=>by
    refine hfree k ok hk hki ?_ hno
    by_cases hjk:j=k
    ·subst hjk; exact hjun
    ·rw [getD_set_ne true hjk] at hun; exact hun
   refine wpOp_mono (fun a' w' h3=>⟨fun x hx=>h3.2.1 x (List.mem_cons_of_mem _ hx),
    ih (listed.setIfInBounds j true) a' w' (hcl.set hbf hj) hfree' (ready_mono hr (Ne.symm hji)) h3.1 (h3.2.1 (i,S) List.mem_cons_self hbji hS) ?_⟩) h2
   rw [Array.setIfInBounds_comm _ _ hji]
   exact h3.2.2
theorem qt0 {L:List (Nat × (World->Prop))} {fuel:Nat} {listed:Array Bool} {a:Act} {w:World} (hne:Region.ready md ops listed ≠ [])
  (h:∀ i ∈ Region.ready md ops listed,wpOp P ops Q i (fun a' w'=>(∀ x ∈ L,bf i x.1=false->x.2 w->x.2 w')/\wpAnyL P md ops Q bf L fuel (listed.setIfInBounds i true) a' w') a w) :
  wpAnyL P md ops Q bf L (fuel+1) listed a w:=⟨fun h0=>absurd h0 hne,h⟩
theorem qrw {L:List (Nat × (World->Prop))} {listed:Array Bool} {a:Act} {w:World} (hr:Region.ready md ops listed=[]) (h:Q .normal a w) :
  ∀ fuel,wpAnyL P md ops Q bf L fuel listed a w
 | 0=>⟨hr,h⟩
 | _+1=>⟨fun _=>h,by rw [hr]; simp⟩
end
end Go.Vc
end
section
/- Regions: in the order of the text, and in an order that is drawn. -/
namespace Go.Vc
variable {P:Program} {T:TT} {G:List Nat} {n:Nat}
def isWr:Op->Bool
 | .alloc _ | .box .. | .buildSlice .. | .store .. | .makeSlice .. | .makeMap .. | .lookup .. | .mapUpdate .. | .makeFunc ..=>true
 | .call ⟨.builtin .append,_,_⟩ | .call ⟨.builtin .copy,_,_⟩=>true
 | .call ⟨.builtin _,_,_⟩=>false
 | .call _=>true
 | _=>false
def dstOk (n:Nat):Option Nat->Bool
 | none=>true
 | some d=>Nat.blt d n
def gslot (ops:List Oper) (j:Nat):Option Nat :=
 match nth ops j with
 | some o=>o.dst
 | none=>none
def gd (ops:List Oper) (fr:Fr) (g:Option (Nat × Bool)) (yes no:Fr->Prop):Prop :=
 match g with
 | none=>yes fr
 | some (j,want)=>match gslot ops j with
  | none=>False
  | some d=>match fget fr d with
   | .tt=>bif want then yes fr else no fr
   | .ff=>bif want then no fr else yes fr
   | .un=>no fr
   | .c (.t x)=>(x=true->bif want then yes ((d,.tt) :: fr) else no ((d,.tt) :: fr))/\(x=false->bif want then no ((d,.ff) :: fr) else yes ((d,.ff) :: fr))
   | _=>False
def vcOps (P:Program) (T:TT) (G:List Nat) (n:Nat) (ops:List Oper):List Oper->Fr->Mem->(Fr->Mem->Prop)->Prop
 | [],fr,m,k=>k fr m
 | o :: rest,fr,m,k =>
  bif dstOk n o.dst then
   gd ops fr o.guard
    (fun fr=>bif isWr o.op then wr P T G n fr m o.dst o.type (fun fr' x m'=>vcOps P T G n ops rest (fput fr' o.dst x) m' k) o.op
     else rd T fr m (fun x=>vcOps P T G n ops rest (fput fr o.dst x) m k) o.op)
    (fun fr=>vcOps P T G n ops rest (fput fr o.dst .un) m k)
  else False
def dsts:List Oper->List Nat
 | []=>[]
 | o :: r=>match o.dst with
  | some d=>d :: dsts r
  | none=>dsts r
def Keep (M:List Nat) (a a':Act):Prop:=∀ t,t ∉ M->a'.tmps.getD t undef=a.tmps.getD t undef
theorem Keep.refl (M:List Nat) (a:Act):Keep M a a:=fun _ _=>rfl
theorem Keep.trans {M:List Nat} {a b c:Act} (h:Keep M a b) (k:Keep M b c):Keep M a c:=fun t ht=>(k t ht).trans (h t ht)
theorem Keep.put {M:List Nat} {d:Option Nat} (hd:∀ t,d=some t->t ∈ M) (v:Value) (a:Act):Keep M a (a.put d v):=by
 cases d with
 | none=>exact Keep.refl M a
 | some d =>
  intro t ht
  have hne:d ≠ t:=fun e=>ht (e ▸ hd d rfl)
  simp [Act.put,Array.getElem?_setIfInBounds_ne hne]
theorem qn1 {o:Oper} {d:Nat} (hd:o.dst=some d):∀ (ops:List Oper),o ∈ ops->d ∈ dsts ops:=by
 intro ops
 induction ops with
 | nil=>intro h; cases h
 | cons x r ih =>
  intro h
  rcases List.mem_cons.1 h with h1 | h1
  ·subst h1
   simp only [dsts,hd]
   exact List.mem_cons_self
  ·have:=ih h1
   unfold dsts
   cases x.dst with
   | none=>exact this
   | some e=>exact List.mem_cons_of_mem _ this
theorem qh0 {d:Option Nat} (h:dstOk n d=true):∀ t,d=some t->t < n:=by
 rintro t rfl
 have:Nat.blt t n=true:=h
 simpa [Nat.blt,Nat.succ_le_iff] using this
theorem qk6 (opsA:Array Oper) {fr:Fr} {a:Act} {m:Mem} (hR:Rel n fr a) (hB:Bx n fr m) (o:Oper) {yes no:Fr->Prop} (h:gd opsA.toList fr o.guard yes no) :
  (Region.wanted o (yielded opsA a.tmps)=true/\∃ fr',yes fr'/\Rel n fr' a/\Bx n fr' m) \/
  (Region.wanted o (yielded opsA a.tmps)=false/\∃ fr',no fr'/\Rel n fr' a/\Bx n fr' m):=by
 unfold gd at h
 cases hg:o.guard with
 | none =>
  rw [hg] at h
  exact Or.inl ⟨by simp [Region.wanted,hg],fr,h,hR,hB⟩
 | some p =>
  obtain ⟨j,want⟩:=p
  rw [hg] at h
  simp only at h
  split at h
  ·exact h.elim
  ·rename_i d hd
   have hgs:(opsA[j]?).bind (·.dst)=some d:=by
    unfold gslot at hd
    rw [nth_eq] at hd
    have e:opsA.toList[j]?=opsA[j]?:=by simp
    rw [e] at hd
    split at hd
    ·rename_i oj hoj; rw [hoj]; exact hd
    ·simp at hd
   have hat:=hR.at' d
   have hyield:∀ b:Bool,a.tmps.getD d undef=.bool b->yielded opsA a.tmps j=some b:=by
    intro b hb
    have:a.tmps[d]?=some (.bool b):=by
     cases hx:a.tmps[d]? with
     | none=>rw [Array.getD_eq_getD_getElem?,hx] at hb; simp [undef] at hb
     | some y=>rw [Array.getD_eq_getD_getElem?,hx] at hb; simp at hb; rw [hb]
    simp [yielded,hgs,this]
   split at h
   ·rename_i hf
    rw [hf] at hat
    have hy:=hyield true hat
    cases want
    ·exact Or.inr ⟨by simp [Region.wanted,hg,hy],fr,h,hR,hB⟩
    ·exact Or.inl ⟨by simp [Region.wanted,hg,hy],fr,h,hR,hB⟩
   ·rename_i hf
    rw [hf] at hat
    have hy:=hyield false hat
    cases want
    ·exact Or.inl ⟨by simp [Region.wanted,hg,hy],fr,h,hR,hB⟩
    ·exact Or.inr ⟨by simp [Region.wanted,hg,hy],fr,h,hR,hB⟩
   ·rename_i hf
    rw [hf] at hat
    have hy:yielded opsA a.tmps j=none:=by
     have hat':a.tmps.getD d undef=undef:=hat
     rw [Array.getD_eq_getD_getElem?] at hat'
     unfold yielded
     rw [hgs]
     cases hx:a.tmps[d]? with
     | none=>simp [hx]
     | some y=>rw [hx] at hat'; simp at hat'; subst hat'; simp [hx,undef]
    exact Or.inr ⟨by simp [Region.wanted,hg,hy],fr,h,hR,hB⟩
   ·rename_i x hf
    rw [hf] at hat
    have hy:=hyield x hat
    have hput:∀ b:Bool,x=b->Rel n ((d,if b then SV.tt else SV.ff) :: fr) a:=by
     rintro b rfl
     refine ⟨hR.size,hR.defers,fun t=>?_⟩
     simp only [fget]
     cases hb:Nat.beq d t
     ·exact hR.at' t
     ·have:=Nat.eq_of_beq_eq_true hb
      subst this
      cases x <;> exact hat
    obtain ⟨h1,h2⟩:=h
    cases x
    ·have h2:=h2 rfl
     cases want
     ·exact Or.inl ⟨by simp [Region.wanted,hg,hy],_,h2,hput false rfl,hB.top (by simp)⟩
     ·exact Or.inr ⟨by simp [Region.wanted,hg,hy],_,h2,hput false rfl,hB.top (by simp)⟩
    ·have h1:=h1 rfl
     cases want
     ·exact Or.inr ⟨by simp [Region.wanted,hg,hy],_,h1,hput true rfl,hB.top (by simp)⟩
     ·exact Or.inl ⟨by simp [Region.wanted,hg,hy],_,h1,hput true rfl,hB.top (by simp)⟩
   ·exact h.elim
theorem rd_wp (hT:TOK P T) {fr:Fr} {a:Act} (hR:Rel n fr a) {m:Mem} (hB:Bx n fr m) {k:SV->Prop} {o:Oper} (h:rd T fr m k o.op) {w:World} (hw:w.heap=m)
  {next:Act->World->Prop} {Q:Exit->Act->World->Prop} (hn:∀ x v,k x->x.Is v->next (a.put o.dst v) w):o.wp P a w next Q:=by
 obtain ⟨x,v,hk,hx,hrun⟩:=qna (P:=P) hT hR hB o h
 unfold Oper.wp
 rw [hrun w (fun q _=>by rw [hw])]
 exact hn x v hk hx
theorem qb3 (hT:TOK P T) (hG:GOK P G) (opsA:Array Oper) {Q:Exit->Act->World->Prop} {w0:World} {a0:Act} :
  ∀ (rest:List Oper) (fr:Fr) (m:Mem) (k:Fr->Mem->Prop) (a:Act) (w:World),(∀ o ∈ rest,o ∈ opsA.toList)->vcOps P T G n opsA.toList rest fr m k->Rel n fr a->Bx n fr m->w.heap=m->Same w0 w ->
   Keep (dsts opsA.toList) a0 a ->
   (∀ fr' a' w',k fr' w'.heap->Rel n fr' a'->Bx n fr' w'.heap->Same w0 w'->Keep (dsts opsA.toList) a0 a'->Q .normal a' w')->wpList P opsA Q rest a w
 | [],fr,m,k,a,w,_,h,hR,hB,hw,hs,hk,hq=>by
  subst hw
  exact hq fr a w h hR hB hs hk
 | o :: rest,fr,m,k,a,w,hmem,h,hR,hB,hw,hs,hk,hq=>by
  simp only [vcOps] at h
  cases hd:dstOk n o.dst
  ·rw [hd] at h; exact h.elim
  ·rw [hd] at h
   simp only [cond_true] at h
   have hdl:=qh0 hd
   have hdm:∀ d,o.dst=some d->d ∈ dsts opsA.toList:=fun d hd'=>qn1 hd' _ (hmem o List.mem_cons_self)
   have hmem':=fun o' ho'=>hmem o' (List.mem_cons_of_mem _ ho')
   unfold wpList
   rcases qk6 opsA hR hB o h with ⟨hwant,fr',hyes,hR',hB'⟩ | ⟨hwant,fr',hno,hR',hB'⟩
   ·rw [if_pos hwant]
    refine .inl ?_
    cases hwr:isWr o.op
    ·simp only [hwr,cond_false] at hyes
     refine rd_wp hT hR' hB' hyes hw fun x v hx hv=>?_
     exact qb3 hT hG opsA rest _ m k _ w hmem' hx (hR'.put hv hdl) (hB'.put _ _) hw hs (hk.trans (Keep.put hdm _ _)) hq
    ·simp only [hwr,cond_true] at hyes
     refine qra hT hG hR' hB' o hyes w hw _ _ fun fr2 x v w' hx hR2 hB2 hv hs'=>?_
     exact qb3 hT hG opsA rest _ _ k _ w' hmem' hx (hR2.put hv hdl) (hB2.put _ _) rfl (hs.trans hs') (hk.trans (Keep.put hdm _ _)) hq
   ·rw [if_neg (by rw [hwant]; simp)]
    exact qb3 hT hG opsA rest _ m k _ w hmem' hno (hR'.put (x:=.un) rfl hdl) (hB'.put _ _) hw hs (hk.trans (Keep.put hdm _ _)) hq
end Go.Vc
end
section
/- Regions that draw their order: the condition, and that it serves. -/
namespace Go.Vc
variable {P:Program} {T:TT} {G:List Nat} {n:Nat}
def nthD:List Nat->Nat->Nat
 | [],_=>0
 | x :: _,0=>x
 | _ :: r,n+1=>nthD r n
def predMask:List Edge->Nat
 | []=>0
 | e :: r=>bif Region.binds .any e then 2 ^ e.on ||| predMask r else predMask r
def befMask (bm:List Nat):List Edge->Nat
 | []=>0
 | e :: r=>bif Region.binds .any e then (2 ^ e.on ||| nthD bm e.on) ||| befMask bm r else befMask bm r
def q3a (bm0:List Nat):List Oper->List Nat->List Nat->Bool
 | [],[],[]=>true
 | o :: ops,p :: pm,b :: bm=>Nat.beq p (predMask o.after.toList) && Nat.beq b (befMask bm0 o.after.toList) && q3a bm0 ops pm bm
 | _,_,_=>false
def opnds:Op->List Operand
 | .alloc _ | .ready _ | .waits _=>[]
 | .move x | .assign x | .box _ x | .load _ x | .nilCheck x | .unOp _ _ x | .convert _ _ x | .sliceToArrayPointer _ x | .makeInterface _ x
 | .makeChan _ x | .fieldAddr _ x _ | .field _ x _ | .range _ x | .next x _ | .entry x | .typeAssert x _ _ _ | .extract x _ | .panic x | .recv _ x _=>[x]
 | .pick c a b=>[c,a,b]
 | .build _ ps | .buildSlice _ _ ps=>ps.toList.map (·.2)
 | .store _ a v | .binOp _ _ a v _ | .makeSlice _ a v | .indexAddr _ a v | .index _ a v | .lookup _ a v _ | .mapEntry _ a v | .send a v=>[a,v]
 | .makeFunc _ first captured=>first.toList ++ captured.toList
 | .makeMap _ r=>r.toList
 | .slice _ x l h m=>[x] ++ l.toList ++ h.toList ++ m.toList
 | .mapUpdate _ m k v | .entryStore _ m k v | .insert _ m k v=>[m,k,v]
 | .call ⟨.value f,args,_⟩ | .go ⟨.value f,args,_⟩ | .defer ⟨.value f,args,_⟩=>f :: args.toList
 | .call ⟨.invoke f _,args,_⟩ | .go ⟨.invoke f _,args,_⟩ | .defer ⟨.invoke f _,args,_⟩=>f :: args.toList
 | .call ⟨.builtin _,args,_⟩ | .go ⟨.builtin _,args,_⟩ | .defer ⟨.builtin _,args,_⟩=>args.toList
 | .select cs _=>(cs.flatMap fun c=>#[c.chan] ++ c.send.toArray).toList
theorem qts (op:Op):op.operands.toList=opnds op:=by
 cases op <;> try (simp [Op.operands,opnds]; done)
 all_goals
  rename_i c
  obtain ⟨callee,args,ts⟩:=c
  cases callee <;> simp [Op.operands,opnds,Call.operands]
def tmpIn (d:Nat):List Operand->Bool
 | []=>false
 | .tmp t :: r=>Nat.beq t d || tmpIn d r
 | _ :: r=>tmpIn d r
def looksB (ops:List Oper) (o:Oper) (d:Nat):Bool :=
 tmpIn d (opnds o.op) || (match o.guard with
  | some (g,_)=>(match gslot ops g with | some t=>Nat.beq t d | none=>false)
  | none=>false)
def apartB (ops:List Oper) (x y:Oper):Bool :=
 (match x.dst with
  | some d=>!looksB ops y d && (match y.dst with | some e=>!Nat.beq d e | none=>true)
  | none=>true) &&
 (match y.dst with
  | some d=>!looksB ops x d
  | none=>true)
def selB:Op->Bool
 | .select ..=>true
 | _=>false
def apartRow (ops0:List Oper) (i:Nat) (bi:Nat) (o:Oper):Nat->List Oper->List Nat->Bool
 | _,[],_=>true
 | _,_,[]=>true
 | j,x :: ops,p :: pm=>(Nat.beq j i || Nat.testBit p i || Nat.testBit bi j || apartB ops0 o x) && apartRow ops0 i bi o (j+1) ops pm
def apartOk (ops0:List Oper) (pm0:List Nat):Nat->List Oper->List Nat->Bool
 | _,[],_=>true
 | _,_,[]=>true
 | i,o :: ops,b :: bm=>!selB o.op && (isWr o.op || apartRow ops0 i b o 0 ops0 pm0) && apartOk ops0 pm0 (i+1) ops bm
def isReadyB (done p i:Nat):Bool:=!(Nat.testBit done i) && Nat.beq (p &&& done) p
def firstR (done:Nat):Nat->List Oper->List Nat->Option Nat
 | _,[],_=>none
 | _,_,[]=>none
 | i,o :: ops,p :: pm=>bif isReadyB done p i && !(isWr o.op) then some i else firstR done (i+1) ops pm
def readyL (done:Nat):Nat->List Oper->List Nat->List Nat
 | _,[],_=>[]
 | _,_,[]=>[]
 | i,_ :: ops,p :: pm=>bif isReadyB done p i then i :: readyL done (i+1) ops pm else readyL done (i+1) ops pm
def sameC (m m':Mem):List (Nat × Nat)->Prop->Prop
 | [],k=>k
 | (b,o) :: r,k=>gcell m' b o=gcell m b o/\sameC m m' r k
def stabC (bi:Nat) (m m':Mem):List (Nat × List (Nat × Nat))->Prop->Prop
 | [],k=>k
 | (r,As) :: L,k=>bif Nat.testBit bi r then stabC bi m m' L k else sameC m m' As (stabC bi m m' L k)
def allL:List Nat->(Nat->Prop)->Prop
 | [],_=>True
 | [i],f=>f i
 | i :: r,f=>f i/\allL r f
def vcDraw (P:Program) (T:TT) (G:List Nat) (n:Nat) (ops:List Oper) (pm bm:List Nat):Nat->Nat->Fr->Mem->List (Nat × List (Nat × Nat))->(Fr->Mem->Prop)->Prop
 | 0,done,fr,m,_,k=>match readyL done 0 ops pm with
  | []=>k fr m
  | _=>False
 | fuel+1,done,fr,m,L,k =>
  match firstR done 0 ops pm with
  | some i=>match nth ops i with
   | some o=>bif dstOk n o.dst then
     gd ops fr o.guard
      (fun fr=>rd T fr m (fun x=>vcDraw P T G n ops pm bm fuel (done ||| 2 ^ i) (fput fr o.dst x) m ((i,rdA T fr o.op) :: L) k) o.op)
      (fun fr=>vcDraw P T G n ops pm bm fuel (done ||| 2 ^ i) (fput fr o.dst .un) m L k)
    else False
   | none=>False
  | none=>match readyL done 0 ops pm with
   | []=>k fr m
   | rs=>allL rs fun i=>match nth ops i with
    | some o=>bif dstOk n o.dst then
      gd ops fr o.guard
       (fun fr=>wr P T G n fr m o.dst o.type (fun fr' x m'=>stabC (nthD bm i) m m' L (vcDraw P T G n ops pm bm fuel (done ||| 2 ^ i) (fput fr' o.dst x) m' L k)) o.op)
       (fun fr=>vcDraw P T G n ops pm bm fuel (done ||| 2 ^ i) (fput fr o.dst .un) m L k)
     else False
    | none=>False
theorem q5u (r:Nat):∀ (es:List Edge),Nat.testBit (predMask es) r=true ↔ ∃ e ∈ es,Region.binds .any e=true/\e.on=r
 | []=>by simp [predMask]
 | e :: es=>by
  have ih:=q5u r es
  simp only [predMask]
  cases hb:Region.binds .any e
  ·simp only [cond_false,ih,List.mem_cons,exists_eq_or_imp,hb]; simp
  ·simp only [cond_true,Nat.testBit_or,Bool.or_eq_true,ih,List.mem_cons,exists_eq_or_imp,hb,true_and,Nat.testBit_two_pow,decide_eq_true_eq]
theorem qeg (bm:List Nat) (r:Nat):∀ (es:List Edge),Nat.testBit (befMask bm es) r=true->∃ e ∈ es,Region.binds .any e=true/\(e.on=r \/ Nat.testBit (nthD bm e.on) r=true)
 | [],h=>by simp [befMask] at h
 | e :: es,h=>by
  have ih:=qeg bm r es
  simp only [befMask] at h
  cases hb:Region.binds .any e
  ·simp only [hb,cond_false] at h
   obtain ⟨e',he',h'⟩:=ih h
   exact ⟨e',List.mem_cons_of_mem _ he',h'⟩
  ·simp only [hb,cond_true,Nat.testBit_or,Bool.or_eq_true,Nat.testBit_two_pow,decide_eq_true_eq] at h
   rcases h with h | h
   ·exact ⟨e,List.mem_cons_self,hb,h⟩
   ·obtain ⟨e',he',h'⟩:=ih h
    exact ⟨e',List.mem_cons_of_mem _ he',h'⟩
theorem q4n (bm0:List Nat):∀ {ops:List Oper} {pm bm:List Nat},q3a bm0 ops pm bm=true->∀ (i:Nat) (o:Oper),ops[i]?=some o ->
  pm[i]?=some (predMask o.after.toList)/\nthD bm i=befMask bm0 o.after.toList/\∃ b,bm[i]?=some b
 | [],[],[],_,i,o,h=>by simp at h
 | x :: ops,p :: pm,b :: bm,h,i,o,ho=>by
  simp only [q3a,Bool.and_eq_true] at h
  obtain ⟨⟨h1,h2⟩,h3⟩:=h
  cases i with
  | zero =>
   simp at ho; subst ho
   exact ⟨by simp [Nat.eq_of_beq_eq_true h1],by simp [nthD,Nat.eq_of_beq_eq_true h2],b,by simp⟩
  | succ i =>
   have:=q4n bm0 h3 i o (by simpa using ho)
   simpa [nthD] using this
 | [],[],_ :: _,h,_,_,_=>by simp [q3a] at h
 | [],_ :: _,_,h,_,_,_=>by simp [q3a] at h
 | _ :: _,[],_,h,_,_,_=>by simp [q3a] at h
 | _ :: _,_ :: _,[],h,_,_,_=>by simp [q3a] at h
theorem qmc (bm0:List Nat):∀ {ops:List Oper} {pm bm:List Nat},q3a bm0 ops pm bm=true->pm.length=ops.length/\bm.length=ops.length
 | [],[],[],_=>⟨rfl,rfl⟩
 | x :: ops,p :: pm,b :: bm,h=>by
  simp only [q3a,Bool.and_eq_true] at h
  have:=qmc bm0 h.2
  simp [this.1,this.2]
 | [],[],_ :: _,h=>by simp [q3a] at h
 | [],_ :: _,_,h=>by simp [q3a] at h
 | _ :: _,[],_,h=>by simp [q3a] at h
 | _ :: _,_ :: _,[],h=>by simp [q3a] at h
end Go.Vc
end
section
/- Regions that draw their order: that the condition serves. -/
namespace Go.Vc
variable {P:Program} {T:TT} {G:List Nat} {n:Nat}
theorem q94 {d:Nat}:∀ {l:List Operand},tmpIn d l=false->d ∉ (l.filterMap fun | .tmp t=>some t | _=>none)
 | [],_=>by simp
 | x :: r,h=>by
  cases x with
  | tmp t =>
   simp only [tmpIn,Bool.or_eq_false_iff] at h
   have ih:=q94 h.2
   have:t ≠ d:=fun e=>by subst e; simp at h
   simp only [List.filterMap_cons,List.mem_cons,not_or]
   exact ⟨fun e=>this e.symm,ih⟩
  | const v=>simpa using q94 (l:=r) (by simpa [tmpIn] using h)
  | global g=>simpa using q94 (l:=r) (by simpa [tmpIn] using h)
  | func f=>simpa using q94 (l:=r) (by simpa [tmpIn] using h)
theorem qu5 (opsA:Array Oper) (g:Nat):gslot opsA.toList g=(opsA[g]?).bind (·.dst):=by
 unfold gslot
 rw [nth_eq]
 have e:opsA.toList[g]?=opsA[g]?:=by simp
 rw [e]
 cases opsA[g]? <;> rfl
theorem qm9 (opsA:Array Oper) {o:Oper} {d:Nat} (h:looksB opsA.toList o d=false):d ∉ o.looksAt opsA:=by
 simp only [looksB,Bool.or_eq_false_iff] at h
 unfold Oper.looksAt
 rw [qts,List.mem_append,not_or]
 refine ⟨q94 h.1,?_⟩
 have h2:=h.2
 cases hg:o.guard with
 | none=>simp
 | some p =>
  obtain ⟨g,b⟩:=p
  rw [hg] at h2
  simp only at h2 ⊢
  rw [qu5] at h2
  cases hd:(opsA[g]?).bind (·.dst) with
  | none=>simp
  | some t =>
   rw [hd] at h2
   simp only at h2
   simp only [Option.toList_some,List.mem_singleton]
   intro e; subst e; simp at h2
theorem qru (opsA:Array Oper) {x y:Oper} (h:apartB opsA.toList x y=true):x.apart opsA y=true:=by
 simp only [apartB,Bool.and_eq_true] at h
 obtain ⟨h1,h2⟩:=h
 unfold Oper.apart
 simp only [Bool.and_eq_true]
 constructor
 ·cases hx:x.dst with
  | none=>rfl
  | some d =>
   rw [hx] at h1
   simp only [Bool.and_eq_true,Bool.not_eq_true'] at h1 ⊢
   refine ⟨?_,?_⟩
   ·have:=qm9 opsA h1.1
    simpa using this
   ·have h12:=h1.2
    cases hy:y.dst with
    | none=>simp
    | some e =>
     rw [hy] at h12
     simp only [Bool.not_eq_true'] at h12
     simp only [bne_iff_ne,ne_eq,Option.some.injEq]
     intro he; subst he; simp at h12
 ·cases hy:y.dst with
  | none=>rfl
  | some d =>
   rw [hy] at h2
   simp only [Bool.not_eq_true'] at h2 ⊢
   have:=qm9 opsA h2
   simpa using this
theorem qhc (ops0:List Oper) (i bi:Nat) (o:Oper):∀ {ops:List Oper} {pm:List Nat} {j0:Nat},apartRow ops0 i bi o j0 ops pm=true->∀ (j:Nat) (x:Oper) (p:Nat),ops[j]?=some x->pm[j]?=some p ->
  j0+j=i \/ Nat.testBit p i=true \/ Nat.testBit bi (j0+j)=true \/ apartB ops0 o x=true
 | [],_,_,_,j,x,p,h,_=>by simp at h
 | _ :: _,[],_,_,j,x,p,_,h=>by simp at h
 | y :: ops,q :: pm,j0,h,j,x,p,hx,hp=>by
  simp only [apartRow,Bool.and_eq_true,Bool.or_eq_true] at h
  obtain ⟨h1,h2⟩:=h
  cases j with
  | zero =>
   simp at hx hp; subst hx; subst hp
   rcases h1 with ((h1 | h1) | h1) | h1
   ·exact Or.inl (by simpa using Nat.eq_of_beq_eq_true h1)
   ·exact Or.inr (Or.inl h1)
   ·exact Or.inr (Or.inr (Or.inl (by simpa using h1)))
   ·exact Or.inr (Or.inr (Or.inr h1))
  | succ j =>
   have:=qhc ops0 i bi o h2 j x p (by simpa using hx) (by simpa using hp)
   have e:j0+1+j=j0+(j+1):=by omega
   rw [e] at this
   exact this
theorem qdb (ops0:List Oper) (pm0:List Nat):∀ {ops:List Oper} {bm:List Nat} {i0:Nat},apartOk ops0 pm0 i0 ops bm=true->∀ (i:Nat) (o:Oper) (b:Nat),ops[i]?=some o->bm[i]?=some b ->
  selB o.op=false/\(isWr o.op=true \/ apartRow ops0 (i0+i) b o 0 ops0 pm0=true)
 | [],_,_,_,i,o,b,h,_=>by simp at h
 | _ :: _,[],_,_,i,o,b,_,h=>by simp at h
 | y :: ops,q :: bm,i0,h,i,o,b,ho,hb=>by
  simp only [apartOk,Bool.and_eq_true,Bool.or_eq_true,Bool.not_eq_true'] at h
  obtain ⟨⟨h1,h2⟩,h3⟩:=h
  cases i with
  | zero=>simp at ho hb; subst ho; subst hb; exact ⟨h1,by simpa using h2⟩
  | succ i =>
   have:=qdb ops0 pm0 h3 i o b (by simpa using ho) (by simpa using hb)
   have e:i0+1+i=i0+(i+1):=by omega
   rw [e] at this
   exact this
theorem qm7 (p d:Nat):Nat.beq (p &&& d) p=true ↔ ∀ r,Nat.testBit p r=true->Nat.testBit d r=true:=by
 constructor
 ·intro h r hr
  have e:=Nat.eq_of_beq_eq_true h
  rw [← e,Nat.testBit_and] at hr
  simp only [Bool.and_eq_true] at hr
  exact hr.2
 ·intro h
  have:p &&& d=p:=by
   apply Nat.eq_of_testBit_eq
   intro r
   rw [Nat.testBit_and]
   cases hp:Nat.testBit p r
   ·rfl
   ·simp [h r hp]
  rw [this]; simp
structure DRel (N done:Nat) (listed:Array Bool):Prop where
 size:listed.size=N
 bit:∀ i,listed.getD i false=Nat.testBit done i
theorem DRel.un {N done:Nat} {listed:Array Bool} (h:DRel N done listed) {i:Nat} (hi:i < N):listed.getD i true=Nat.testBit done i:=by
 rw [← h.bit i]
 have:i < listed.size:=by rw [h.size]; exact hi
 simp [this]
theorem DRel.set {N done:Nat} {listed:Array Bool} (h:DRel N done listed) {i:Nat} (hi:i < N):DRel N (done ||| 2 ^ i) (listed.setIfInBounds i true):=by
 refine ⟨by simp [h.size],fun j=>?_⟩
 have hlt:i < listed.size:=by rw [h.size]; exact hi
 rw [Nat.testBit_or,Nat.testBit_two_pow]
 by_cases e:i=j
 ·subst e; simp [hlt]
 ·rw [getD_set_ne false e,h.bit j]; simp [e]
theorem qjh (opsA:Array Oper) {pm bm0 bm:List Nat} (hm:q3a bm0 opsA.toList pm bm=true) {done:Nat} {listed:Array Bool} (hD:DRel opsA.size done listed) (i:Nat) :
  i ∈ Region.ready .any opsA listed ↔ ∃ o p,opsA[i]?=some o/\pm[i]?=some p/\isReadyB done p i=true:=by
 rw [mem_ready]
 constructor
 ·rintro ⟨h0,o,ho,hall⟩
  have hi:i < opsA.size:=(Array.getElem?_eq_some_iff.1 ho).1
  have hp:=(q4n bm0 hm i o (by simpa using ho)).1
  refine ⟨o,_,ho,hp,?_⟩
  simp only [isReadyB,Bool.and_eq_true,Bool.not_eq_true']
  refine ⟨by rw [← hD.un hi]; exact h0,(qm7 _ _).2 fun r hr=>?_⟩
  obtain ⟨e,he,hb,rfl⟩:=(q5u r _).1 hr
  rw [← hD.bit]
  exact hall e (Array.mem_toList_iff.1 he) hb
 ·rintro ⟨o,p,ho,hp,hr⟩
  have hi:i < opsA.size:=(Array.getElem?_eq_some_iff.1 ho).1
  have hp':=(q4n bm0 hm i o (by simpa using ho)).1
  rw [hp] at hp'
  simp only [Option.some.injEq] at hp'
  subst hp'
  simp only [isReadyB,Bool.and_eq_true,Bool.not_eq_true'] at hr
  refine ⟨by rw [hD.un hi]; exact hr.1,o,ho,fun e he hb=>?_⟩
  rw [hD.bit]
  exact (qm7 _ _).1 hr.2 e.on ((q5u _ _).2 ⟨e,Array.mem_toList_iff.2 he,hb,rfl⟩)
theorem qo8 (done:Nat):∀ {ops:List Oper} {pm:List Nat} {i0 i:Nat},i ∈ readyL done i0 ops pm ↔ ∃ j o p,i=i0+j/\ops[j]?=some o/\pm[j]?=some p/\isReadyB done p i=true
 | [],_,_,_=>by simp [readyL]
 | _ :: _,[],_,_=>by simp [readyL]
 | x :: ops,q :: pm,i0,i=>by
  have ih:=qo8 done (ops:=ops) (pm:=pm) (i0:=i0+1) (i:=i)
  have key:(∃ j o p,i=i0+j/\(x :: ops)[j]?=some o/\(q :: pm)[j]?=some p/\isReadyB done p i=true) ↔
    ((i=i0/\isReadyB done q i0=true) \/ ∃ j o p,i=i0+1+j/\ops[j]?=some o/\pm[j]?=some p/\isReadyB done p i=true):=by
   constructor
   ·rintro ⟨j,o,p,rfl,ho,hp,hr⟩
    cases j with
    | zero=>simp at hp; subst hp; exact Or.inl ⟨rfl,by simpa using hr⟩
    | succ j=>exact Or.inr ⟨j,o,p,by omega,by simpa using ho,by simpa using hp,by rwa [show i0+(j+1)=i0+(j+1) from rfl] at hr⟩
   ·rintro (⟨rfl,hr⟩ | ⟨j,o,p,rfl,ho,hp,hr⟩)
    ·exact ⟨0,x,q,rfl,by simp,by simp,hr⟩
    ·exact ⟨j+1,o,p,by omega,by simpa using ho,by simpa using hp,hr⟩
  rw [key,← ih]
  simp only [readyL]
  cases hb:isReadyB done q i0
  ·simp
  ·simp
theorem qm2 (done:Nat):∀ {ops:List Oper} {pm:List Nat} {i0 i:Nat},firstR done i0 ops pm=some i->∃ j o p,i=i0+j/\ops[j]?=some o/\pm[j]?=some p/\isReadyB done p i=true/\isWr o.op=false
 | [],_,_,_,h=>by simp [firstR] at h
 | _ :: _,[],_,_,h=>by simp [firstR] at h
 | x :: ops,q :: pm,i0,i,h=>by
  simp only [firstR] at h
  cases hb:(isReadyB done q i0 && !(isWr x.op))
  ·rw [hb] at h
   obtain ⟨j,o,p,rfl,ho,hp,hr,hw⟩:=qm2 done h
   exact ⟨j+1,o,p,by omega,by simpa using ho,by simpa using hp,hr,hw⟩
  ·rw [hb] at h
   simp at h; subst h
   simp only [Bool.and_eq_true,Bool.not_eq_true'] at hb
   exact ⟨0,x,q,rfl,by simp,by simp,hb.1,hb.2⟩
theorem qq0:∀ {l:List Nat} {f:Nat->Prop},allL l f->∀ i ∈ l,f i
 | [i],f,h,j,hj=>by simp at hj; subst hj; exact h
 | i :: i' :: r,f,h,j,hj=>by
  rcases List.mem_cons.1 hj with rfl | hj
  ·exact h.1
  ·exact qq0 h.2 j hj
theorem qoh {m m':Mem}:∀ {l:List (Nat × Nat)} {k:Prop},sameC m m' l k->k/\∀ q ∈ l,gcell m' q.1 q.2=gcell m q.1 q.2
 | [],k,h=>⟨h,by simp⟩
 | (b,o) :: r,k,h=>by
  obtain ⟨h1,h2⟩:=qoh h.2
  refine ⟨h1,fun q hq=>?_⟩
  rcases List.mem_cons.1 hq with rfl | hq
  ·exact h.1
  ·exact h2 q hq
theorem qh7 {bi:Nat} {m m':Mem}:∀ {L:List (Nat × List (Nat × Nat))} {k:Prop},stabC bi m m' L k->k/\∀ x ∈ L,Nat.testBit bi x.1=false->∀ q ∈ x.2,gcell m' q.1 q.2=gcell m q.1 q.2
 | [],k,h=>⟨h,by simp⟩
 | (r,As) :: L,k,h=>by
  simp only [stabC] at h
  cases hb:Nat.testBit bi r
  ·rw [hb] at h
   obtain ⟨h1,h2⟩:=qoh h
   obtain ⟨h3,h4⟩:=qh7 h1
   refine ⟨h3,fun x hx hxb=>?_⟩
   rcases List.mem_cons.1 hx with rfl | hx
   ·exact h2
   ·exact h4 x hx hxb
  ·rw [hb] at h
   obtain ⟨h3,h4⟩:=qh7 h
   refine ⟨h3,fun x hx hxb=>?_⟩
   rcases List.mem_cons.1 hx with rfl | hx
   ·rw [hb] at hxb; cases hxb
   ·exact h4 x hx hxb
def LRel (L:List (Nat × List (Nat × Nat))) (Ls:List (Nat × (World->Prop))):Prop :=
 ∀ x ∈ Ls,(∀ w,x.2 w) \/ ∃ (As:List (Nat × Nat)) (c:Nat × Nat->Option Value),(x.1,As) ∈ L/\x.2=fun w=>∀ q ∈ As,gcell w.heap q.1 q.2=c q
end Go.Vc
end
section
/- Regions that draw their order: the theorem. -/
namespace Go.Vc
variable {P:Program} {T:TT} {G:List Nat} {n:Nat}
theorem qrg (hT:TOK P T) (hG:GOK P G) (opsA:Array Oper) (pm bm:List Nat) (hm:q3a bm opsA.toList pm bm=true) (hap:apartOk opsA.toList pm 0 opsA.toList bm=true)
  {Q:Exit->Act->World->Prop} (hQ:∀ c a w,¬ Q (.panic c) a w) {w0:World} {a0:Act} :
  ∀ (fuel done:Nat) (fr:Fr) (m:Mem) (L:List (Nat × List (Nat × Nat))) (k:Fr->Mem->Prop) (Ls:List (Nat × (World->Prop))) (listed:Array Bool) (a:Act) (w:World),
   vcDraw P T G n opsA.toList pm bm fuel done fr m L k->LRel L Ls->DRel opsA.size done listed->Closed (fun i r=>Nat.testBit (nthD bm i) r) listed->Rel n fr a->Bx n fr m->w.heap=m->Same w0 w ->
   Keep (dsts opsA.toList) a0 a ->
   (∀ fr' a' w',k fr' w'.heap->Rel n fr' a'->Bx n fr' w'.heap->Same w0 w'->Keep (dsts opsA.toList) a0 a'->Q .normal a' w') ->
   wpAnyL P .any opsA Q (fun i r=>Nat.testBit (nthD bm i) r) Ls fuel listed a w:=by
 have hbf:BfOk .any opsA (fun i r=>Nat.testBit (nthD bm i) r):=by
  intro i r o ho hr
  have h1:=(q4n bm hm i o (by simpa using ho)).2.1
  simp only [h1] at hr
  obtain ⟨e,he,hb,h⟩:=qeg bm r _ hr
  exact ⟨e,Array.mem_toList_iff.1 he,hb,h⟩
 have hlen:=qmc bm hm
 have hsel:∀ (j:Nat) (o:Oper) cs b,opsA[j]?=some o->o.op ≠ .select cs b:=by
  intro j o cs b ho e
  obtain ⟨_,_,bj,hbj⟩:=q4n bm hm j o (by simpa using ho)
  have:=(qdb _ _ hap j o bj (by simpa using ho) hbj).1
  rw [e] at this
  simp [selB] at this
 have hready0:∀ {done:Nat} {listed:Array Bool},DRel opsA.size done listed->∀ i,i ∈ Region.ready .any opsA listed ↔ i ∈ readyL done 0 opsA.toList pm:=by
  intro done listed hD i
  rw [qjh opsA hm hD i,qo8]
  constructor
  ·rintro ⟨o,p,ho,hp,hr⟩
   exact ⟨i,o,p,by omega,by simpa using ho,hp,hr⟩
  ·rintro ⟨j,o,p,e,ho,hp,hr⟩
   have:i=j:=by omega
   subst this
   exact ⟨o,p,by simpa using ho,hp,hr⟩
 have hnil:∀ {done:Nat} {listed:Array Bool},DRel opsA.size done listed->readyL done 0 opsA.toList pm=[]->Region.ready .any opsA listed=[]:=by
  intro done listed hD h
  apply List.eq_nil_iff_forall_not_mem.2
  intro i hi
  rw [hready0 hD i,h] at hi
  cases hi
 intro fuel
 induction fuel with
 | zero =>
  intro done fr m L k Ls listed a w h hL hD hC hR hB hw hs hk hq
  subst hw
  simp only [vcDraw] at h
  split at h
  ·rename_i h0
   exact ⟨hnil hD h0,hq fr a w h hR hB hs hk⟩
  ·exact h.elim
 | succ fuel ih =>
  intro done fr m L k Ls listed a w h hL hD hC hR hB hw hs hk hq
  subst hw
  simp only [vcDraw] at h
  split at h
  ·-- a reading is taken first
   rename_i i hi
   obtain ⟨j,o,p,e,ho,hp,hr,hwr⟩:=qm2 done hi
   have:i=j:=by omega
   subst this
   rw [nth_eq,ho] at h
   simp only at h
   have hoA:opsA[i]?=some o:=by simpa using ho
   have hiN:i < opsA.size:=(Array.getElem?_eq_some_iff.1 hoA).1
   have hrdy:i ∈ Region.ready .any opsA listed:=(qjh opsA hm hD i).2 ⟨o,p,hoA,hp,hr⟩
   cases hd:dstOk n o.dst
   ·rw [hd] at h; exact h.elim
   ·rw [hd] at h
    simp only [cond_true] at h
    have hdl:=qh0 hd
    have hdm:∀ d,o.dst=some d->d ∈ dsts opsA.toList:=fun d hd'=>qn1 hd' _ (List.mem_of_getElem? ho)
    have hfree:∀ j oj,opsA[j]?=some oj->j ≠ i->listed.getD j true=false->(∀ e ∈ oj.after,Region.binds .any e=true->e.on ≠ i)->o.apart opsA oj=true:=by
     intro j oj hoj hji hjun hnot
     have hjN:j < opsA.size:=(Array.getElem?_eq_some_iff.1 hoj).1
     obtain ⟨_,hbi,bi,hbi'⟩:=q4n bm hm i o ho
     rcases (qdb _ _ hap i o bi ho hbi').2 with h' | h'
     ·rw [hwr] at h'; cases h'
     ·have hpj:=(q4n bm hm j oj (by simpa using hoj)).1
      have hbb:nthD bm i=bi:=by
       have:∀ (l:List Nat) (i b:Nat),l[i]?=some b->nthD l i=b:=by
        intro l
        induction l with
        | nil=>intro i b h; simp at h
        | cons x l ih=>intro i b h; cases i with
         | zero=>simpa [nthD] using h
         | succ i=>simpa [nthD] using ih i b (by simpa using h)
       exact this bm i bi hbi'
      rcases qhc _ _ _ _ h' j oj _ (by simpa using hoj) hpj with e | e | e | e
      ·exact absurd (by omega) hji
      ·rw [Nat.zero_add] at e
       obtain ⟨ed,hed,hb,heq⟩:=(q5u i _).1 e
       exact absurd heq (hnot ed (Array.mem_toList_iff.1 hed) hb)
      ·rw [Nat.zero_add,← hbb] at e
       have:=qdh hbf hC hrdy e
       rw [hD.bit] at this
       rw [hD.un hjN,this] at hjun
       cases hjun
      ·exact qru opsA e
    rcases qk6 opsA hR hB o h with ⟨hwant,fr',hyes,hR',hB'⟩ | ⟨hwant,fr',hno,hR',hB'⟩
    ·obtain ⟨x,v,hx,hv,hrun⟩:=qna (P:=P) hT hR' hB' o hyes
     let S:World->Prop:=fun w'=>∀ q ∈ rdA T fr' o.op,gcell w'.heap q.1 q.2=gcell w.heap q.1 q.2
     refine qkf (S:=S) hbf hoA hsel (fun c a w hc=>absurd hc (hQ _ _ _)) fuel listed a w hC hfree hrdy (v:=v) (Or.inl ⟨hwant,fun w' hw'=>hrun w' hw'⟩) (fun q _=>rfl) ?_
     refine ih _ _ _ _ k _ _ _ w hx ?_ (hD.set hiN) (hC.set hbf hrdy) (hR'.put hv hdl) (hB'.put _ _) rfl hs (hk.trans (Keep.put hdm _ _)) hq
     intro y hy
     rcases List.mem_cons.1 hy with rfl | hy
     ·exact Or.inr ⟨_,fun q=>gcell w.heap q.1 q.2,List.mem_cons_self,rfl⟩
     ·rcases hL y hy with h' | ⟨As,c,h1,h2⟩
      ·exact Or.inl h'
      ·exact Or.inr ⟨As,c,List.mem_cons_of_mem _ h1,h2⟩
    ·refine qkf (S:=fun _=>True) hbf hoA hsel (fun c a w hc=>absurd hc (hQ _ _ _)) fuel listed a w hC hfree hrdy (v:=undef) (Or.inr ⟨hwant,rfl⟩) trivial ?_
     refine ih _ _ _ _ k _ _ _ w hno ?_ (hD.set hiN) (hC.set hbf hrdy) (hR'.put (x:=.un) rfl hdl) (hB'.put _ _) rfl hs (hk.trans (Keep.put hdm _ _)) hq
     intro y hy
     rcases List.mem_cons.1 hy with rfl | hy
     ·exact Or.inl fun _=>trivial
     ·exact hL y hy
  ·split at h
   ·rename_i h0
    exact qrw (hnil hD h0) (hq fr a w h hR hB hs hk) _
   ·rename_i rs hne
    have hall:=qq0 h
    refine qt0 ?_ ?_
    ·intro e
     apply hne
     cases hrs:readyL done 0 opsA.toList pm with
     | nil=>rfl
     | cons x xs =>
      have:x ∈ Region.ready .any opsA listed:=(hready0 hD x).2 (by rw [hrs]; exact List.mem_cons_self)
      rw [e] at this
      cases this
    ·intro i hi
     have hi':=hall i ((hready0 hD i).1 hi)
     obtain ⟨o,p,hoA,hp,hr⟩:=(qjh opsA hm hD i).1 hi
     have ho:opsA.toList[i]?=some o:=by simpa using hoA
     have hiN:i < opsA.size:=(Array.getElem?_eq_some_iff.1 hoA).1
     rw [nth_eq,ho] at hi'
     simp only at hi'
     cases hd:dstOk n o.dst
     ·rw [hd] at hi'; exact hi'.elim
     ·rw [hd] at hi'
      simp only [cond_true] at hi'
      have hdl:=qh0 hd
      have hdm:∀ d,o.dst=some d->d ∈ dsts opsA.toList:=fun d hd'=>qn1 hd' _ (List.mem_of_getElem? ho)
      unfold wpOp
      simp only [hoA]
      rcases qk6 opsA hR hB o hi' with ⟨hwant,fr',hyes,hR',hB'⟩ | ⟨hwant,fr',hno,hR',hB'⟩
      ·rw [if_pos hwant]
       refine .inl (qra hT hG hR' hB' o hyes w rfl _ _ fun fr2 x v w' hx hR2 hB2 hv hs'=>?_)
       obtain ⟨hx1,hx2⟩:=qh7 hx
       refine ⟨fun y hy hyb hyw=>?_,ih _ _ _ L k Ls _ _ w' hx1 hL (hD.set hiN) (hC.set hbf hi) (hR2.put hv hdl) (hB2.put _ _) rfl (hs.trans hs') (hk.trans (Keep.put hdm _ _)) hq⟩
       rcases hL y hy with h' | ⟨As,c,h1,h2⟩
       ·exact h' w'
       ·rw [h2] at hyw ⊢
        intro q hq'
        rw [hx2 _ h1 hyb q hq',hyw q hq']
      ·rw [if_neg (by rw [hwant]; simp)]
       exact ⟨fun y hy _ hyw=>hyw,ih _ _ _ L k Ls _ _ w hno hL (hD.set hiN) (hC.set hbf hi) (hR'.put (x:=.un) rfl hdl) (hB'.put _ _) rfl hs (hk.trans (Keep.put hdm _ _)) hq⟩
end Go.Vc
end
section
/- Code: its condition, with loops and cuts that are told by what their slots hold; that the condition serves. -/
namespace Go.Vc
variable {P:Program} {T:TT} {G:List Nat} {n:Nat}
structure Ann where
 draws:List (Nat × List Nat × List Nat)
 loops:List (Nat × List (Nat × Sh))
 cuts:List (Nat × List (Nat × Sh))
 keep:List (Nat × List Nat)
def lk {α:Type}:List (Nat × α)->Nat->Option α
 | [],_=>none
 | (u,x) :: r,t=>bif Nat.beq u t then some x else lk r t
def headR:Code->Option Nat
 | .region id _ _=>some id
 | .seq a b=>match headR a with
  | some i=>some i
  | none=>headR b
 | .cond _ a b=>match headR a with
  | some i=>some i
  | none=>headR b
 | .block _ c=>headR c
 | .loop c=>headR c
 | .scope c=>headR c
 | _=>none
def lkH {α:Type} (l:List (Nat × α)) (c:Code):Option α :=
 match headR c with
 | some i=>lk l i
 | none=>none
def LTy:List (Nat × Sh)->Type
 | []=>Mem->Prop
 | (_,s) :: r=>s.ty->LTy r
def MTy:List (Nat × Sh)->Type
 | []=>Mem->Nat
 | (_,s) :: r=>s.ty->MTy r
def getS:(s:Sh)->SV->Option s.ty
 | .I,.c (.i n)=>some n
 | .U k,.c (.u k' n)=>if k=k' then some n else none
 | .T,.c (.t b)=>some b
 | .T,.tt=>some true
 | .T,.ff=>some false
 | .S,.c (.s x)=>some x
 | .P,.c (.p b o)=>some (b,o)
 | .P,.c (.bp _ b o)=>some (b,o)
 | .F,.c (.fn f a c)=>some (f,a,c)
 | .F,.c (.fv q)=>some q
 | .M,.c (.mp b)=>some b
 | _,_=>none
def appI:(l:List (Nat × Sh))->LTy l->Fr->Mem->Prop
 | [],I,_,m=>I m
 | (t,s) :: r,I,fr,m=>match getS s (fget fr t) with
  | some x=>appI r (I x) fr m
  | none=>False
def appM:(l:List (Nat × Sh))->LTy l->MTy l->Fr->Mem->Nat->Prop
 | [],I,μ,_,m,N=>I m/\μ m < N
 | (t,s) :: r,I,μ,fr,m,N=>match getS s (fget fr t) with
  | some x=>appM r (I x) (μ x) fr m N
  | none=>False
def allI:(l:List (Nat × Sh))->LTy l->Fr->(Fr->(Mem->Prop)->Prop)->Prop
 | [],I,fr,k=>k fr I
 | (t,s) :: r,I,fr,k=>∀ x:s.ty,allI r (I x) ((t,.c (s.mk x)) :: fr) k
def allM:(l:List (Nat × Sh))->LTy l->MTy l->Fr->(Fr->(Mem->Prop)->(Mem->Nat)->Prop)->Prop
 | [],I,μ,fr,k=>k fr I μ
 | (t,s) :: r,I,μ,fr,k=>∀ x:s.ty,allM r (I x) (μ x) ((t,.c (s.mk x)) :: fr) k
def tops:List Nat->Fr->Fr
 | [],fr=>fr
 | t :: r,fr=>(t,.top) :: tops r fr
def mods:Code->List Nat
 | .region _ ops _=>dsts ops.toList
 | .seq a b=>mods a ++ mods b
 | .cond _ a b=>mods a ++ mods b
 | .block _ c=>mods c
 | .loop c=>mods c
 | _=>[]
def slotsIn (M:List Nat):List (Nat × Sh)->Bool
 | []=>true
 | (t,_) :: r=>memN t M && slotsIn M r
def eqS (x y:SV) (k:Prop):Prop:=x=y/\k
theorem qu6 (x:SV) (k:Prop):eqS x x k=k:=by simp [eqS]
def kept (A:Ann) (c:Code):List Nat :=
 match lkH A.keep c with
 | some K=>K
 | none=>[]
def bkeys (n:Nat) (K:List Nat):Fr->List Nat
 | []=>[]
 | (q,_) :: r=>bif Nat.ble n q && !memN q K then q :: bkeys n K r else bkeys n K r
def bdrop (n:Nat) (K:List Nat) (fr:Fr):Fr:=tops (bkeys n K fr) fr
def eqK (fr fr':Fr):List Nat->Prop->Prop
 | [],k=>k
 | q :: K,k=>eqS (fget fr' q) (fget fr q) (eqK fr fr' K k)
def pureOp (fr:Fr):Op->Option SV
 | .move x | .assign x=>match ev fr x with
  | .top=>none
  | y=>some y
 | .binOp op _ x y _=>match ev fr x,ev fr y with
  | .c (.i a),.c (.i b)=>match op with
   | .eql=>some (.c (.t (a == b)))
   | .neq=>some (.c (.t (a != b)))
   | .lss=>some (.c (.t (decide (a < b))))
   | .leq=>some (.c (.t (decide (a<=b))))
   | .gtr=>some (.c (.t (decide (a > b))))
   | .geq=>some (.c (.t (decide (a ≥ b))))
   | _=>none
  | _,_=>none
 | _=>none
def pureOps (n:Nat):List Oper->Fr->Option Fr
 | [],fr=>some fr
 | o :: r,fr=>bif dstOk n o.dst then
   match o.guard with
   | none=>match pureOp fr o.op with
    | some x=>pureOps n r (fput fr o.dst x)
    | none=>none
   | some _=>none
  else none
def orB (A:Ann) (n t:Nat):Code->Fr->Option Bool
 | .region _ ops false,fr=>match pureOps n ops.toList fr with
  | some fr'=>boolOf (fget fr' t)
  | none=>none
 | .seq (.region _ ops false) (.cond (.tmp u) .skip c),fr =>
  match lkH A.cuts (.cond (.tmp u) .skip c) with
  | some _=>none
  | none=>bif Nat.beq u t && memN t (mods c) then
    match pureOps n ops.toList fr with
    | some fr'=>match boolOf (fget fr' t),orB A n t c fr' with
     | some x,some y=>some (x || y)
     | _,_=>none
    | none=>none
   else none
 | _,_=>none
def orT (A:Ann) (n:Nat) (c:Operand) (a b:Code) (fr:Fr):Option (Nat × Bool) :=
 match c,a with
 | .tmp t,.skip=>bif memN t (mods b) then
   match orB A n t b fr with
   | some y=>some (t,y)
   | none=>none
  else none
 | _,_=>none
def refine' (fr:Fr) (c:Operand) (v:SV):Fr :=
 match c with
 | .tmp t=>(t,v) :: fr
 | _=>fr
def vc (P:Program) (T:TT) (G:List Nat) (n:Nat) (A:Ann):Code->Fr->Mem->(Exit->Fr->Mem->Prop)->Prop
 | .skip,fr,m,Q=>Q .normal fr m
 | .region id ops draw,fr,m,Q =>
  bif draw then
   match lk A.draws id with
   | some (pm,bm)=>bif q3a bm ops.toList pm bm && apartOk ops.toList pm 0 ops.toList bm then
     vcDraw P T G n ops.toList pm bm ops.toList.length 0 fr m [] (Q .normal) else False
   | none=>False
  else vcOps P T G n ops.toList ops.toList fr m (Q .normal)
 | .seq a b,fr,m,Q=>match lkH A.cuts b with
  | none=>vc P T G n A a fr m fun
   | .normal,fr',m'=>vc P T G n A b fr' m' Q
   | e,fr',m'=>Q e fr' m'
  | some l=>bif slotsIn (mods a) l then ∃ K:LTy l,(vc P T G n A a fr m fun
    | .normal,fr',m'=>eqK fr fr' (kept A b) (appI l K fr' m')
    | e,fr',m'=>Q e fr' m') /\
   (allI l K (tops (mods a) (bdrop n (kept A b) fr)) fun fr' K'=>∀ m',K' m'->vc P T G n A b fr' m' Q) else False
 | .cond c a b,fr,m,Q=>match ev fr c with
  | .tt=>vc P T G n A a fr m Q
  | .ff=>vc P T G n A b fr m Q
  | .c (.t x)=>match orT A n c a b fr with
   | some (t,y)=>Q .normal ((t,.c (.t (x || y))) :: tops (mods b) fr) m
   | none=>(x=true->vc P T G n A a (refine' fr c .tt) m Q)/\(x=false->vc P T G n A b (refine' fr c .ff) m Q)
  | _=>False
 | .block id c,fr,m,Q=>vc P T G n A c fr m fun
  | .exit i,fr',m'=>bif Nat.beq i id then Q .normal fr' m' else Q (.exit i) fr' m'
  | e,fr',m'=>Q e fr' m'
 | .loop c,fr,m,Q=>match lkH A.loops c with
  | none=>False
  | some l=>bif slotsIn (mods c) l then ∃ (I:LTy l) (μ:MTy l),appI l I fr m /\
    (allM l I μ (tops (mods c) (bdrop n (kept A c) fr)) fun fr' I' μ'=>∀ m',I' m'->vc P T G n A c fr' m' fun
     | .normal,fr'',m''=>eqK fr fr'' (kept A c) (appM l I μ fr'' m'' (μ' m'))
     | e,fr'',m''=>Q e fr'' m'') else False
 | .exit id,fr,m,Q=>Q (.exit id) fr m
 | .ret,fr,m,Q=>Q .ret fr m
 | _,_,_,_=>False
theorem Keep.mono {M M':List Nat} {a b:Act} (h:Keep M a b) (hm:∀ t ∈ M,t ∈ M'):Keep M' a b:=fun t ht=>h t fun h'=>ht (hm t h')
theorem qe4:∀ (M:List Nat) (fr:Fr) (t:Nat),(t ∈ M/\fget (tops M fr) t=.top) \/ (t ∉ M/\fget (tops M fr) t=fget fr t)
 | [],_,_=>Or.inr ⟨by simp,rfl⟩
 | u :: M,fr,t=>by
  simp only [tops,fget]
  cases hb:Nat.beq u t
  ·have hne:u ≠ t:=fun e=>by subst e; simp at hb
   rcases qe4 M fr t with ⟨h1,h2⟩ | ⟨h1,h2⟩
   ·exact Or.inl ⟨List.mem_cons_of_mem _ h1,h2⟩
   ·exact Or.inr ⟨by simp only [List.mem_cons,not_or]; exact ⟨fun e=>hne e.symm,h1⟩,h2⟩
  ·have:=Nat.eq_of_beq_eq_true hb
   subst this
   exact Or.inl ⟨List.mem_cons_self,rfl⟩
theorem qd5 {M:List Nat} {fr:Fr} {a a':Act} (hR:Rel n fr a) (hn:a'.tmps.size=n) (hd:a'.defers=[]) (hk:Keep M a a'):Rel n (tops M fr) a':=by
 refine ⟨hn,hd,fun t=>?_⟩
 rcases qe4 M fr t with ⟨_,h⟩ | ⟨h1,h2⟩
 ·rw [h]; trivial
 ·rw [h2,hk t h1]; exact hR.at' t
theorem Rel.tops {fr:Fr} {a:Act} (hR:Rel n fr a):∀ (M:List Nat),Rel n (tops M fr) a
 | []=>hR
 | t :: M=>(Rel.tops hR M).top t
theorem Bx.tops {fr:Fr} {m:Mem} (h:Bx n fr m):∀ (M:List Nat),Bx n (tops M fr) m
 | []=>h
 | t :: M=>(Bx.tops h M).top (by simp)
theorem qq1 {K:List Nat} {q:Nat} (hq:n<=q) (hK:q ∉ K):∀ {fr:Fr},q ∈ bkeys n K fr \/ fget fr q=.top
 | []=>Or.inr rfl
 | (u,x) :: r=>by
  simp only [bkeys,fget]
  cases hu:Nat.beq u q
  ·rcases qq1 hq hK (fr:=r) with h | h
   ·left
    cases (Nat.ble n u && !memN u K)
    ·exact h
    ·exact List.mem_cons_of_mem _ h
   ·exact Or.inr h
  ·have:=Nat.eq_of_beq_eq_true hu
   subst this
   have hm:memN u K=false:=by
    cases hmm:memN u K
    ·rfl
    ·exact absurd (qja hmm) hK
   have hb:Nat.ble n u=true:=Nat.ble_eq_true_of_le hq
   simp [hm,hb]
theorem qmz {fr fr':Fr}:∀ {K:List Nat} {k:Prop},eqK fr fr' K k->(∀ q ∈ K,fget fr' q=fget fr q)/\k
 | [],k,h=>⟨by simp,h⟩
 | q :: K,k,h=>by
  obtain ⟨h1,h2⟩:=qmz h.2
  refine ⟨fun u hu=>?_,h2⟩
  rcases List.mem_cons.1 hu with rfl | hu
  ·exact h.1
  ·exact h1 u hu
theorem Bx.kept {K M:List Nat} {fr fr':Fr} {m m':Mem} (h:Bx n fr m) (h':Bx n fr' m') (hK:∀ q ∈ K,fget fr' q=fget fr q):Bx n (Vc.tops M (bdrop n K fr)) m':=by
 have key:∀ {q b e l},boxAt (Vc.tops M (bdrop n K fr)) q b e l->boxAt fr q b e l/\boxAt fr' q b e l:=by
  intro q b e l hb
  have e1:fget (Vc.tops M (bdrop n K fr)) q=fget (bdrop n K fr) q \/ fget (Vc.tops M (bdrop n K fr)) q=.top:=by
   rcases qe4 M (bdrop n K fr) q with ⟨_,h⟩ | ⟨_,h⟩
   ·exact Or.inr h
   ·exact Or.inl h
  unfold boxAt at hb
  rcases e1 with e1 | e1
  ·rw [e1] at hb
   unfold bdrop at hb
   rcases qe4 (bkeys n K fr) fr q with ⟨_,h2⟩ | ⟨h1,h2⟩
   ·rw [h2] at hb; simp at hb
   ·rw [h2] at hb
    have hq:n<=q:=h.key q b e l hb
    by_cases hqK:q ∈ K
    ·refine ⟨hb,?_⟩
     unfold boxAt
     rw [hK q hqK]
     exact hb
    ·rcases qq1 (n:=n) hq hqK (fr:=fr) with h3 | h3
     ·exact absurd h3 h1
     ·rw [h3] at hb; simp at hb
  ·rw [e1] at hb; simp at hb
 exact ⟨fun q b e l hb=>h'.blk q b e l (key hb).2,fun q q' b e l b' e' l' hne h1 h2=>h.dist q q' b e l b' e' l' hne (key h1).1 (key h2).1,fun q b e l hb=>h.key q b e l (key hb).1⟩
theorem qt7 {s:Sh} {x:SV} {y:s.ty} (h:getS s x=some y):x.known=true/\x.v=(s.mk y).v:=by
 unfold getS at h
 split at h <;> first | (simp at h; subst h; exact ⟨rfl,rfl⟩) | skip
 ·split at h
  ·rename_i hk; subst hk; simp at h; subst h; exact ⟨rfl,rfl⟩
  ·simp at h
 ·simp at h
theorem qmy {fr base:Fr} {a:Act} {t:Nat} {s:Sh} {y:s.ty} (hR:Rel n fr a) (hb:Rel n base a) (h:getS s (fget fr t)=some y):Rel n ((t,.c (s.mk y)) :: base) a:=by
 refine ⟨hb.size,hb.defers,fun u=>?_⟩
 simp only [fget]
 cases hbe:Nat.beq t u
 ·exact hb.at' u
 ·have:=Nat.eq_of_beq_eq_true hbe
  subst this
  have h1:=hR.at' t
  obtain ⟨hk,hv⟩:=qt7 h
  have h2:=h1.eq hk
  show _=_
  rw [h2,hv]; rfl
def Inst:(l:List (Nat × Sh))->LTy l->MTy l->Fr->Fr->(Mem->Prop)->(Mem->Nat)->Prop
 | [],I,μ,fr,fr',I',μ'=>fr'=fr/\I'=I/\μ'=μ
 | (t,s) :: r,I,μ,fr,fr',I',μ'=>∃ x:s.ty,Inst r (I x) (μ x) ((t,.c (s.mk x)) :: fr) fr' I' μ'
theorem qq8:∀ {l:List (Nat × Sh)} {I:LTy l} {μ:MTy l} {fr:Fr} {k:Fr->(Mem->Prop)->(Mem->Nat)->Prop},allM l I μ fr k->∀ {fr' I' μ'},Inst l I μ fr fr' I' μ'->k fr' I' μ'
 | [],_,_,_,_,h,_,_,_,hi=>by obtain ⟨rfl,rfl,rfl⟩:=hi; exact h
 | (t,s) :: r,_,_,_,_,h,_,_,_,hi=>by obtain ⟨x,hi⟩:=hi; exact qq8 (h x) hi
theorem Sh.mk_ne (s:Sh) (x:s.ty) (b e:Nat) (l:List Ce):SV.c (s.mk x) ≠ .box b e l/\SV.c (s.mk x) ≠ .boxF b e l:=⟨by simp,by simp⟩
theorem qpy {a:Act} {fr'':Fr} (hR:Rel n fr'' a):∀ {l:List (Nat × Sh)} {I:LTy l} {μ:MTy l} {base:Fr} {m:Mem} {N:Nat},Rel n base a->Bx n base m->appM l I μ fr'' m N ->
  ∃ fr' I' μ',Inst l I μ base fr' I' μ'/\Rel n fr' a/\Bx n fr' m/\I' m/\μ' m < N
 | [],I,μ,base,_,_,hb,hB,h=>⟨base,I,μ,⟨rfl,rfl,rfl⟩,hb,hB,h.1,h.2⟩
 | (t,s) :: r,I,μ,base,m,N,hb,hB,h=>by
  simp only [appM] at h
  split at h
  ·rename_i x hx
   obtain ⟨fr',I',μ',h1,h2,h3,h4⟩:=qpy hR (qmy hR hb hx) (hB.top (s.mk_ne x)) h
   exact ⟨fr',I',μ',⟨x,h1⟩,h2,h3,h4⟩
  ·exact h.elim
theorem qqb {a:Act} {fr'':Fr} (hR:Rel n fr'' a):∀ {l:List (Nat × Sh)} {I:LTy l} {μ:MTy l} {base:Fr} {m:Mem},Rel n base a->Bx n base m->appI l I fr'' m ->
  ∃ fr' I' μ',Inst l I μ base fr' I' μ'/\Rel n fr' a/\Bx n fr' m/\I' m
 | [],I,μ,base,_,hb,hB,h=>⟨base,I,μ,⟨rfl,rfl,rfl⟩,hb,hB,h⟩
 | (t,s) :: r,I,μ,base,m,hb,hB,h=>by
  simp only [appI] at h
  split at h
  ·rename_i x hx
   obtain ⟨fr',I',μ',h1,h2,h3⟩:=qqb hR (qmy hR hb hx) (hB.top (s.mk_ne x)) h
   exact ⟨fr',I',μ',⟨x,h1⟩,h2,h3⟩
  ·exact h.elim
theorem qr5 {a:Act} {fr'':Fr} (hR:Rel n fr'' a):∀ {l:List (Nat × Sh)} {I:LTy l} {base:Fr} {m:Mem} {k:Fr->(Mem->Prop)->Prop},Rel n base a->Bx n base m->appI l I fr'' m->allI l I base k ->
  ∃ fr' I',k fr' I'/\Rel n fr' a/\Bx n fr' m/\I' m
 | [],I,base,_,_,hb,hB,h,hk=>⟨base,I,hk,hb,hB,h⟩
 | (t,s) :: r,I,base,m,k,hb,hB,h,hk=>by
  simp only [appI] at h
  split at h
  ·rename_i x hx
   exact qr5 hR (qmy hR hb hx) (hB.top (s.mk_ne x)) h (hk x)
  ·exact h.elim
theorem qte {c:Code} {Q:Exit->Act->World->Prop} (Inv:Nat->Act->World->Prop)
  (round:∀ N a w,Inv N a w->c.wp P (Exit.then (fun a' w'=>∃ N',N' < N/\Inv N' a' w') Q) a w):∀ N a w,Inv N a w->(Code.loop c).wp P Q a w:=by
 have hmin:∀ N a w,Inv N a w->∃ M,Inv M a w/\∀ M',M' < M->¬ Inv M' a w:=by
  intro N
  induction N using Nat.strongRecOn with
  | _ N ih =>
   intro a w h
   by_cases hx:∃ M',M' < N/\Inv M' a w
   ·obtain ⟨M',h1,h2⟩:=hx
    exact ih M' h1 a w h2
   ·exact ⟨N,h,fun M' hM' hi=>hx ⟨M',hM',hi⟩⟩
 intro N a w hN
 classical
 let μ:Act->World->Nat:=fun a w=>if h:∃ M,Inv M a w/\∀ M',M' < M->¬ Inv M' a w then Classical.choose h else 0
 have hμ:∀ a w N,Inv N a w->Inv (μ a w) a w/\μ a w<=N:=by
  intro a w N h
  have hex:=hmin N a w h
  have e:μ a w=Classical.choose hex:=dif_pos hex
  have hs:=Classical.choose_spec hex
  rw [e]
  refine ⟨hs.1,?_⟩
  rcases Nat.lt_or_ge N (Classical.choose hex) with hlt | hge
  ·exact absurd h (hs.2 N hlt)
  ·exact hge
 refine wp_loop (fun a w=>∃ N,Inv N a w) μ ⟨N,hN⟩ ?_
 rintro a w ⟨N,h⟩
 refine Code.wp_mono ?_ (round (μ a w) a w (hμ a w N h).1)
 intro e a' w' hq
 cases e with
 | normal =>
  obtain ⟨N',hlt,hi⟩:=hq
  exact ⟨⟨N',hi⟩,Nat.lt_of_le_of_lt (hμ a' w' N' hi).2 hlt⟩
 | _=>exact hq
end Go.Vc
end
section
/- Code: that its condition serves; functions. -/
namespace Go.Vc
variable {P:Program} {T:TT} {G:List Nat} {n:Nat} {A:Ann}
def LiftQ (n:Nat) (w0:World) (M:List Nat) (a0:Act) (Q:Exit->Fr->Mem->Prop):Exit->Act->World->Prop
 | .panic _,_,_=>False
 | .outgrown,_,_=>False
 | e,a,w=>∃ fr',Rel n fr' a/\Bx n fr' w.heap/\Same w0 w/\Keep M a0 a/\Q e fr' w.heap
theorem LiftQ.mk {w0:World} {M:List Nat} {a0:Act} {fr':Fr} {Q:Exit->Fr->Mem->Prop} {e:Exit} {a:Act} {w:World} (he:(∀ c,e ≠ .panic c)/\e ≠ .outgrown)
  (hR:Rel n fr' a) (hB:Bx n fr' w.heap) (hs:Same w0 w) (hk:Keep M a0 a) (hq:Q e fr' w.heap):LiftQ n w0 M a0 Q e a w:=by
 cases e with
 | panic c=>exact absurd rfl (he.1 c)
 | outgrown=>exact absurd rfl he.2
 | _=>exact ⟨fr',hR,hB,hs,hk,hq⟩
theorem LiftQ.out {w0:World} {M:List Nat} {a0:Act} {Q:Exit->Fr->Mem->Prop} {e:Exit} {a:Act} {w:World} (h:LiftQ n w0 M a0 Q e a w) :
  ((∀ c,e ≠ .panic c)/\e ≠ .outgrown)/\∃ fr',Rel n fr' a/\Bx n fr' w.heap/\Same w0 w/\Keep M a0 a/\Q e fr' w.heap:=by
 cases e with
 | panic c=>exact h.elim
 | outgrown=>exact h.elim
 | _=>exact ⟨⟨by simp,by simp⟩,h⟩
theorem LiftQ.left {w0:World} {M M':List Nat} {a0:Act} {Q:Exit->Fr->Mem->Prop} {e:Exit} {a:Act} {w:World} (h:LiftQ n w0 M a0 Q e a w):LiftQ n w0 (M ++ M') a0 Q e a w:=by
 obtain ⟨he,fr',hR',hB',hs',hk',hq⟩:=h.out
 exact LiftQ.mk he hR' hB' hs' (hk'.mono (fun t ht=>List.mem_append_left _ ht)) hq
theorem LiftQ.right {w0:World} {M M':List Nat} {a0:Act} {Q:Exit->Fr->Mem->Prop} {e:Exit} {a:Act} {w:World} (h:LiftQ n w0 M a0 Q e a w):LiftQ n w0 (M' ++ M) a0 Q e a w:=by
 obtain ⟨he,fr',hR',hB',hs',hk',hq⟩:=h.out
 exact LiftQ.mk he hR' hB' hs' (hk'.mono (fun t ht=>List.mem_append_right _ ht)) hq
theorem qtg {fr:Fr} {m:Mem} {op:Op} {x:SV} {k:SV->Prop} (h:pureOp fr op=some x) (hk:k x):isWr op=false/\rd T fr m k op:=by
 unfold pureOp at h
 split at h
 ·split at h
  ·simp at h
  ·simp at h; subst h; exact ⟨rfl,hk⟩
 ·split at h
  ·simp at h
  ·simp at h; subst h; exact ⟨rfl,hk⟩
 ·rename_i o t y z ty
  split at h
  ·rename_i a b ha hb
   refine ⟨rfl,?_⟩
   simp only [rd,ha,hb]
   split at h <;> simp at h <;> subst h <;> exact hk
  ·simp at h
 ·simp at h
theorem qh5 (ops0:List Oper) {m:Mem} {k:Fr->Mem->Prop}:∀ {ops:List Oper} {fr fr':Fr},pureOps n ops fr=some fr'->k fr' m->vcOps P T G n ops0 ops fr m k
 | [],fr,fr',h,hk=>by simp [pureOps] at h; subst h; exact hk
 | o :: r,fr,fr',h,hk=>by
  simp only [pureOps] at h
  simp only [vcOps]
  cases hd:dstOk n o.dst
  ·rw [hd] at h; simp at h
  ·rw [hd] at h
   simp only [cond_true] at h ⊢
   cases hg:o.guard with
   | some g=>rw [hg] at h; simp at h
   | none =>
    rw [hg] at h
    simp only [gd] at h ⊢
    split at h
    ·rename_i x hx
     obtain ⟨h1,h2⟩:=qtg (T:=T) (m:=m) (k:=fun x=>vcOps P T G n ops0 r (fput fr o.dst x) m k) hx (qh5 ops0 h hk)
     rw [h1]
     exact h2
    ·simp at h
theorem orB_vc (t:Nat) {m:Mem} {Q:Exit->Fr->Mem->Prop}:∀ (c:Code) (fr:Fr) (y:Bool),orB A n t c fr=some y->(∀ fr',boolOf (fget fr' t)=some y->Q .normal fr' m)->vc P T G n A c fr m Q
 | .region id ops draw,fr,y,h,hq=>by
  cases draw
  ·simp only [orB] at h
   simp only [vc,cond_false]
   split at h
   ·rename_i fr' hfr
    exact qh5 _ hfr (hq fr' h)
   ·simp at h
  ·simp [orB] at h
 | .seq (.region id ops false) (.cond (.tmp u) .skip c),fr,y,h,hq=>by
  simp only [orB] at h
  split at h
  ·simp at h
  ·rename_i hcut
   cases hb:(Nat.beq u t && memN t (mods c))
   ·rw [hb] at h; simp at h
   ·rw [hb] at h
    simp only [cond_true] at h
    simp only [Bool.and_eq_true] at hb
    have hut:=Nat.eq_of_beq_eq_true hb.1
    subst hut
    split at h
    ·rename_i fr' hfr
     split at h
     ·rename_i x y' hx hy'
      simp at h
      subst h
      rw [vc,hcut]
      simp only
      rw [vc]
      simp only [cond_false]
      refine qh5 _ hfr ?_
      rw [vc]
      have hev:ev fr' (.tmp u)=(fget fr' u).nb:=rfl
      rw [hev]
      cases hf:fget fr' u with
      | tt =>
       rw [hf] at hx
       simp [boolOf] at hx
       subst hx
       simp only [SV.nb,vc]
       exact hq fr' (by rw [hf]; simp [boolOf])
      | ff =>
       rw [hf] at hx
       simp [boolOf] at hx
       subst hx
       simp only [SV.nb]
       exact orB_vc u c fr' y' hy' (fun fr'' h''=>hq fr'' (by simpa using h''))
      | c z =>
       cases z with
       | t b =>
        rw [hf] at hx
        simp [boolOf] at hx
        subst hx
        simp only [SV.nb,orT,hb.2,cond_true,hy']
        exact hq _ (by simp [fget,boolOf])
       | _=>rw [hf] at hx; simp [boolOf] at hx
      | _=>rw [hf] at hx; simp [boolOf] at hx
     ·simp at h
    ·simp at h
theorem qu2 (hT:TOK P T) (hG:GOK P G) (hmix:P.follows .mixedOrders=true) (w0:World):∀ (c:Code) (fr:Fr) (m:Mem) (Q:Exit->Fr->Mem->Prop) (a:Act) (w:World),
  vc P T G n A c fr m Q->Rel n fr a->Bx n fr m->w.heap=m->Same w0 w->c.wp P (LiftQ n w0 (mods c) a Q) a w:=by
 intro c
 induction c with
 | skip =>
  intro fr m Q a w h hR hB hw hs
  subst hw
  exact wp_skip ⟨fr,hR,hB,hs,Keep.refl _ _,h⟩
 | region id ops draw =>
  intro fr m Q a w h hR hB hw hs
  simp only [vc] at h
  cases draw
  ·simp only [cond_false] at h
   refine wp_region_list ?_
   exact qb3 hT hG ops ops.toList fr m (Q .normal) a w (fun _ h=>h) h hR hB hw hs (Keep.refl _ _) fun fr' a' w' hq hR' hB' hs' hk=>⟨fr',hR',hB',hs',hk,hq⟩
  ·simp only [cond_true] at h
   split at h
   ·rename_i pm bm hlk
    cases hc:(q3a bm ops.toList pm bm && apartOk ops.toList pm 0 ops.toList bm)
    ·rw [hc] at h; exact h.elim
    ·rw [hc] at h
     simp only [Bool.and_eq_true] at hc
     refine wp_region_any hmix (qnj (bf:=fun i r=>Nat.testBit (nthD bm i) r) (L:=[]) _ _ _ _ ?_)
     have hsz:ops.toList.length=ops.size:=by simp
     rw [hsz] at h
     refine qrg hT hG ops pm bm hc.1 hc.2 (fun c a w hx=>hx) (w0:=w0) (a0:=a) ops.size 0 fr m [] (Q .normal) [] _ a _ h (fun x hx=>by cases hx) ⟨by simp,fun i=>by simp [Array.getElem?_replicate]; split <;> rfl⟩ (fun i hi=>by simp [Array.getElem?_replicate] at hi; split at hi <;> simp at hi) hR hB hw ⟨hs.os,hs.tape,hs.output⟩ (Keep.refl _ _) fun fr' a' w' hq hR' hB' hs' hk=>⟨fr',hR',hB',hs',hk,hq⟩
   ·exact h.elim
 | seq x y ihx ihy =>
  intro fr m Q a w h hR hB hw hs
  simp only [vc] at h
  refine wp_seq ?_
  split at h
  ·refine Code.wp_mono ?_ (ihx fr m _ a w h hR hB hw hs)
   intro e a' w' hq
   obtain ⟨he,fr',hR',hB',hs',hk',hq⟩:=hq.out
   cases e with
   | normal =>
    refine Code.wp_mono ?_ (ihy fr' _ Q a' w' hq hR' hB' rfl hs')
    intro e a'' w'' hq
    obtain ⟨he,fr'',hR'',hB'',hs'',hk'',hq⟩:=hq.out
    exact LiftQ.mk he hR'' hB'' hs'' ((hk'.mono (fun t ht=>List.mem_append_left _ ht)).trans (hk''.mono (fun t ht=>List.mem_append_right _ ht))) hq
   | panic c=>exact absurd rfl (he.1 c)
   | outgrown=>exact absurd rfl he.2
   | exit i=>exact LiftQ.mk (e:=.exit i) he hR' hB' hs' (hk'.mono (fun t ht=>List.mem_append_left _ ht)) hq
   | goto i=>exact LiftQ.mk (e:=.goto i) he hR' hB' hs' (hk'.mono (fun t ht=>List.mem_append_left _ ht)) hq
   | ret=>exact LiftQ.mk (e:=.ret) he hR' hB' hs' (hk'.mono (fun t ht=>List.mem_append_left _ ht)) hq
  ·rename_i l hl
   cases hsl:slotsIn (mods x) l
   ·rw [hsl] at h; exact h.elim
   rw [hsl] at h
   obtain ⟨K,h1,h2⟩:=h
   refine Code.wp_mono ?_ (ihx fr m _ a w h1 hR hB hw hs)
   intro e a' w' hq
   obtain ⟨he,fr',hR',hB',hs',hk',hq⟩:=hq.out
   cases e with
   | normal =>
    obtain ⟨hKe,hq⟩:=qmz hq
    obtain ⟨fr2,K',h3,h4,h4B,h5⟩:=qr5 hR' (qd5 (hR.tops _) hR'.size hR'.defers hk') (Bx.kept hB hB' hKe) hq h2
    refine Code.wp_mono ?_ (ihy fr2 _ Q a' w' (h3 _ h5) h4 h4B rfl hs')
    intro e a'' w'' hq
    obtain ⟨he,fr'',hR'',hB'',hs'',hk'',hq⟩:=hq.out
    exact LiftQ.mk he hR'' hB'' hs'' ((hk'.mono (fun t ht=>List.mem_append_left _ ht)).trans (hk''.mono (fun t ht=>List.mem_append_right _ ht))) hq
   | panic c=>exact absurd rfl (he.1 c)
   | outgrown=>exact absurd rfl he.2
   | exit i=>exact LiftQ.mk (e:=.exit i) he hR' hB' hs' (hk'.mono (fun t ht=>List.mem_append_left _ ht)) hq
   | goto i=>exact LiftQ.mk (e:=.goto i) he hR' hB' hs' (hk'.mono (fun t ht=>List.mem_append_left _ ht)) hq
   | ret=>exact LiftQ.mk (e:=.ret) he hR' hB' hs' (hk'.mono (fun t ht=>List.mem_append_left _ ht)) hq
 | cond o x y ihx ihy =>
  intro fr m Q a w h hR hB hw hs
  simp only [vc] at h
  have href:∀ {b:Bool},a.eval o=.bool b->Rel n (refine' fr o (if b then .tt else .ff)) a:=by
   intro b hb
   unfold refine'
   split
   ·rename_i t
    refine ⟨hR.size,hR.defers,fun u=>?_⟩
    simp only [fget]
    cases hbe:Nat.beq t u
    ·exact hR.at' u
    ·have:=Nat.eq_of_beq_eq_true hbe
     subst this
     cases b <;> exact hb
   ·exact hR
  have hrefB:∀ {x:SV},(∀ b e l,x ≠ .box b e l/\x ≠ .boxF b e l)->Bx n (refine' fr o x) m:=by
   intro x hx
   unfold refine'
   split
   ·exact hB.top hx
   ·exact hB
  split at h
  ·rename_i hc
   exact wp_cond_true (hR.eq hc rfl) (Code.wp_mono (fun _ _ _ h=>h.left) (ihx fr m Q a w h hR hB hw hs))
  ·rename_i hc
   exact wp_cond_false (hR.eq hc rfl) (Code.wp_mono (fun _ _ _ h=>h.right) (ihy fr m Q a w h hR hB hw hs))
  ·rename_i b hc
   have hcv:a.eval o=.bool b:=hR.eq hc rfl
   split at h
   ·rename_i t y' hor
    unfold orT at hor
    split at hor
    ·rename_i t0
     cases hmm:memN t0 (mods y)
     ·rw [hmm] at hor; simp at hor
     ·rw [hmm] at hor
      simp only [cond_true] at hor
      split at hor
      ·rename_i y0 hy0
       simp at hor
       obtain ⟨rfl,rfl⟩:=hor
       have hcv':a.tmps.getD t0 undef=.bool b:=hcv
       refine wp_cond_split hcv (fun ht=>?_) (fun ht=>?_)
       ·subst hw
        subst ht
        refine wp_skip (LiftQ.mk (e:=.normal) (fr':=(t0,.c (.t (true || y0))) :: tops (mods y) fr) ⟨by simp,by simp⟩ ?_ ((hB.tops _).top (by simp)) hs (Keep.refl _ _) h)
        have hb:=qd5 (M:=mods y) hR hR.size hR.defers (Keep.refl _ a)
        refine ⟨hb.size,hb.defers,fun u=>?_⟩
        simp only [fget]
        cases hbe:Nat.beq t0 u
        ·exact hb.at' u
        ·have:=Nat.eq_of_beq_eq_true hbe
         subst this
         simpa [SV.Is,SV.v,Ce.v] using hcv'
       ·subst ht
        have hv:=orB_vc (P:=P) (T:=T) (G:=G) (A:=A) (n:=n) t0 (m:=m) (Q:=fun e fr' m'=>e=.normal/\m'=m/\boolOf (fget fr' t0)=some y0) y fr y0 hy0 (fun fr' h'=>⟨rfl,rfl,h'⟩)
        refine Code.wp_mono ?_ (ihy fr m _ a w hv hR hB hw hs)
        intro e a' w' hq
        obtain ⟨he,fr',hR',hB',hs',hk',rfl,hm',hbo⟩:=hq.out
        refine LiftQ.mk (e:=.normal) (fr':=(t0,.c (.t (false || y0))) :: tops (mods y) fr) he ?_ (by rw [hm']; exact (hB.tops _).top (by simp)) hs' (hk'.mono (fun t ht=>List.mem_append_right _ ht)) (by rw [hm']; exact h)
        have hb:=qd5 (M:=mods y) hR hR'.size hR'.defers hk'
        refine ⟨hb.size,hb.defers,fun u=>?_⟩
        simp only [fget]
        cases hbe:Nat.beq t0 u
        ·exact hb.at' u
        ·have:=Nat.eq_of_beq_eq_true hbe
         subst this
         obtain ⟨hk1,hk2⟩:=qd4 hbo
         have h3:=(hR'.at' t0).eq hk1
         rw [hk2] at h3
         simpa [SV.Is,SV.v,Ce.v] using h3
      ·simp at hor
    ·simp at hor
   ·refine wp_cond_split hcv (fun ht=>?_) (fun ht=>?_)
    ·subst ht
     exact Code.wp_mono (fun _ _ _ h=>h.left) (ihx _ m Q a w (h.1 rfl) (href hcv) (hrefB (by simp)) hw hs)
    ·subst ht
     exact Code.wp_mono (fun _ _ _ h=>h.right) (ihy _ m Q a w (h.2 rfl) (href hcv) (hrefB (by simp)) hw hs)
  ·exact h.elim
 | block id x ih =>
  intro fr m Q a w h hR hB hw hs
  simp only [vc] at h
  refine wp_block (Code.wp_mono ?_ (ih fr m _ a w h hR hB hw hs))
  intro e a' w' hq
  obtain ⟨he,fr',hR',hB',hs',hk',hq⟩:=hq.out
  cases e with
  | exit i =>
   simp only [Exit.inBlock]
   simp only at hq
   cases hb:Nat.beq i id
   ·rw [hb] at hq
    have hne:i ≠ id:=fun e=>by subst e; simp at hb
    rw [if_neg hne]
    exact LiftQ.mk (e:=.exit i) he hR' hB' hs' hk' hq
   ·rw [hb] at hq
    rw [if_pos (Nat.eq_of_beq_eq_true hb)]
    exact LiftQ.mk (e:=.normal) ⟨by simp,by simp⟩ hR' hB' hs' hk' hq
  | normal=>exact LiftQ.mk (e:=.normal) he hR' hB' hs' hk' hq
  | panic c=>exact absurd rfl (he.1 c)
  | outgrown=>exact absurd rfl he.2
  | goto i=>exact LiftQ.mk (e:=.goto i) he hR' hB' hs' hk' hq
  | ret=>exact LiftQ.mk (e:=.ret) he hR' hB' hs' hk' hq
 | loop x ih =>
  intro fr m Q a w h hR hB hw hs
  subst hw
  simp only [vc] at h
  split at h
  ·exact h.elim
  ·rename_i l hl
   cases hsl:slotsIn (mods x) l
   ·rw [hsl] at h; exact h.elim
   rw [hsl] at h
   obtain ⟨I,μ,h0,h1⟩:=h
   let Inv:Nat->Act->World->Prop:=fun N a' w=>∃ fr' I' μ',Inst l I μ (tops (mods x) (bdrop n (kept A x) fr)) fr' I' μ'/\Rel n fr' a'/\Bx n fr' w.heap/\I' w.heap/\μ' w.heap=N/\Same w0 w/\Keep (mods x) a a'
   obtain ⟨fr1,I1,μ1,hi1,hR1,hB1,hI1⟩:=qqb (μ:=μ) hR (qd5 (hR.tops _) hR.size hR.defers (Keep.refl (mods x) a)) (Bx.kept hB hB (fun _ _=>rfl)) h0
   refine qte Inv ?_ (μ1 w.heap) a w ⟨fr1,I1,μ1,hi1,hR1,hB1,hI1,rfl,hs,Keep.refl _ _⟩
   rintro N a1 w ⟨fr',I',μ',hi,hR',hB',hI',rfl,hs',hk1⟩
   have hbody:=qq8 h1 hi w.heap hI'
   refine Code.wp_mono ?_ (ih fr' w.heap _ a1 w hbody hR' hB' rfl hs')
   intro e a' w' hq
   obtain ⟨he,fr2,hR2,hB2,hs2,hk2,hq⟩:=hq.out
   cases e with
   | normal =>
    obtain ⟨hKe,hq⟩:=qmz hq
    obtain ⟨fr3,I3,μ3,hi3,hR3,hB3,hI3,hlt⟩:=qpy hR2 (qd5 (hR.tops _) hR2.size hR2.defers (hk1.trans hk2)) (Bx.kept hB hB2 hKe) hq
    exact ⟨_,hlt,fr3,I3,μ3,hi3,hR3,hB3,hI3,rfl,hs2,hk1.trans hk2⟩
   | panic c=>exact absurd rfl (he.1 c)
   | outgrown=>exact absurd rfl he.2
   | exit i=>exact LiftQ.mk (e:=.exit i) he hR2 hB2 hs2 (hk1.trans hk2) hq
   | goto i=>exact LiftQ.mk (e:=.goto i) he hR2 hB2 hs2 (hk1.trans hk2) hq
   | ret=>exact LiftQ.mk (e:=.ret) he hR2 hB2 hs2 (hk1.trans hk2) hq
 | exit id =>
  intro fr m Q a w h hR hB hw hs
  subst hw
  exact wp_exit ⟨fr,hR,hB,hs,Keep.refl _ _,h⟩
 | ret =>
  intro fr m Q a w h hR hB hw hs
  subst hw
  exact wp_ret ⟨fr,hR,hB,hs,Keep.refl _ _,h⟩
 | rangeFunc f ps x y _ _=>intro fr m Q a w h; exact h.elim
 | scope x _=>intro fr m Q a w h; exact h.elim
 | label l=>intro fr m Q a w h; exact h.elim
 | goto l=>intro fr m Q a w h; exact h.elim
 | refuse s=>intro fr m Q a w h; exact h.elim
def argFr:Nat->List SV->Fr
 | _,[]=>[]
 | i,x :: r=>(i,x) :: argFr (i+1) r
def resL (T:TT) (fr:Fr) (m:Mem):List ResultVar->(List SV->Prop)->Prop
 | [],k=>k []
 | .tmp t :: r,k=>bif (fget fr t).known then resL T fr m r fun l=>k (fget fr t :: l) else False
 | .cell p t :: r,k=>rd T fr m (fun x=>bif x.known then resL T fr m r fun l=>k (x :: l) else False) (.load t (.tmp p))
def resF (T:TT) (rs:List ResultVar) (fr:Fr) (m:Mem) (R:Value->Mem->Prop):Prop :=
 resL T fr m rs fun
  | [x]=>R x.v m
  | l=>R (.tuple (l.map SV.v).toArray) m
def vcFn (P:Program) (T:TT) (G:List Nat) (A:Ann) (n:Nat) (rs:List ResultVar) (c:Code) (args:List SV) (m:Mem) (R:Value->Mem->Prop):Prop :=
 vc P T G n A c (argFr 0 args) m fun
  | .normal,fr,m=>resF T rs fr m R
  | .ret,fr,m=>resF T rs fr m R
  | _,_,_=>False
theorem qjk:∀ (args:List SV) (i t:Nat),(t < i/\fget (argFr i args) t=.top) \/ (i<=t/\fget (argFr i args) t=args.getD (t - i) .top)
 | [],i,t=>by
  rcases Nat.lt_or_ge t i with h | h
  ·exact Or.inl ⟨h,rfl⟩
  ·exact Or.inr ⟨h,by simp [argFr,fget]⟩
 | x :: r,i,t=>by
  simp only [argFr,fget]
  cases hb:Nat.beq i t
  ·have hne:i ≠ t:=fun e=>by subst e; simp at hb
   rcases qjk r (i+1) t with ⟨h1,h2⟩ | ⟨h1,h2⟩
   ·exact Or.inl ⟨by omega,h2⟩
   ·refine Or.inr ⟨by omega,?_⟩
    have e:t - i=(t - (i+1))+1:=by omega
    rw [e,List.getD_cons_succ]
    exact h2
  ·have:=Nat.eq_of_beq_eq_true hb
   subst this
   exact Or.inr ⟨Nat.le_refl _,by simp⟩
def resOne (tmps:Array Value):ResultVar->Sem Value
 | .tmp t=>pure (tmps.getD t undef)
 | .cell p t=>do loadVar t (← asAddr (tmps.getD p undef))
theorem qsp (fn:Func) (tmps:Array Value):results fn tmps=(do
  let vs ← fn.results.mapM (resOne tmps)
  pure (if h:vs.size=1 then vs[0] else .tuple vs)):=by
 unfold results
 congr 2
theorem qiy {fr:Fr} {a:Act} (hT:TOK P T) (hR:Rel n fr a):∀ (rs:List ResultVar) (k:List SV->Prop) (w:World),Bx n fr w.heap->resL T fr w.heap rs k ->
  ∃ l,k l/\(rs.mapM (resOne a.tmps)).run P w=.ok (l.map SV.v) w
 | [],k,w,_,h=>⟨[],h,by simp⟩
 | .tmp t :: r,k,w,hB,h=>by
  simp only [resL] at h
  cases hk:(fget fr t).known
  ·rw [hk] at h; exact h.elim
  ·rw [hk] at h
   obtain ⟨l,h1,h2⟩:=qiy hT hR r _ w hB h
   refine ⟨_,h1,?_⟩
   have hv:=(hR.at' t).eq hk
   have e1:resOne a.tmps (.tmp t)=pure (a.tmps.getD t undef):=rfl
   simp only [List.mapM_cons,Sem.run_bind,Sem.run_pure,Result.andThen_ok,h2,List.map_cons,hv,e1]
 | .cell p t :: r,k,w,hB,hrd=>by
  obtain ⟨x, v, hx, hv, hrun⟩ := qna (P := P) hT hR hB ⟨none, .load t (.tmp p), 0, "", #[], none⟩ hrd
  have hrun:=hrun w (fun q _=>rfl)
  cases hkx:x.known
  ·rw [hkx] at hx; exact hx.elim
  rw [hkx] at hx
  obtain ⟨l,h1,h2⟩:=qiy hT hR r _ w hB hx
  refine ⟨_,h1,?_⟩
  have hpp:∃ b o,a.tmps.getD p undef=.pointer (some ⟨b,o,none⟩):=by
   have hat:=SV.nb_is (hR.at' p)
   simp only [resL,rd,ev] at hrd
   split at hrd
   ·rename_i b o hp
    rw [hp] at hat
    exact ⟨b,o,hat⟩
   ·rename_i q b o hp
    rw [hp] at hat
    exact ⟨b,o,hat⟩
   ·exact hrd.elim
  obtain ⟨b,o,hpv⟩:=hpp
  simp only [execOp,Instr.loadAt,Act.eval,hpv,Instr.sureAddr,Sem.run_bind,Sem.run_pure,Result.andThen_ok] at hrun
  have hl:(loadVar t ⟨b,o,none⟩).run P w=.ok v w:=by
   cases hr:(loadVar t ⟨b,o,none⟩).run P w with
   | ok u w' =>
    rw [hr] at hrun
    simp at hrun
    rw [hrun.1,hrun.2]
   | halt e w'=>rw [hr] at hrun; simp at hrun
  have hxk:v=x.v:=hv.eq hkx
  have e1:(resOne a.tmps (.cell p t)).run P w=.ok v w:=by
   simp only [resOne,hpv,Sem.run_bind,asAddr,Sem.run_pure,Result.andThen_ok,hl]
  simp only [List.mapM_cons,Sem.run_bind,Sem.run_pure,Result.andThen_ok,e1,h2,List.map_cons,hxk]
theorem qss (hT:TOK P T) (hG:GOK P G) (hmix:P.follows .mixedOrders=true) {f:FuncId} {fn:Func} {c:Code} {rs:List ResultVar} {args:List SV} {m:Mem} {R:Value->Mem->Prop}
  (hf:P.funcs[f]?=some fn) (hb:fn.body=some c) (hn:fn.ntmps=n) (hrs:fn.results=rs.toArray) (hargs:args.all SV.known=true) (hle:args.length<=n)
  (h:vcFn P T G A n rs c args m R):q08 P f (args.map SV.v) m R:=by
 intro w hw
 refine calls_of_wp hf hb ?_
 have hR:Rel n (argFr 0 args) { tmps:=(args.map SV.v).toArray ++ Array.replicate (fn.ntmps - (args.map SV.v).toArray.size) undef,defers:=[] }:=by
  refine ⟨by simp [hn]; omega,rfl,fun t=>?_⟩
  rcases qjk args 0 t with ⟨h1,_⟩ | ⟨_,h2⟩
  ·omega
  ·rw [h2,Nat.sub_zero]
   rcases Nat.lt_or_ge t args.length with hlt | hge
   ·have hk:(args[t]).known=true:=List.all_eq_true.1 hargs _ (List.getElem_mem hlt)
    have e1:args.getD t .top=args[t]:=by simp [hlt]
    rw [e1]
    have e2:((args.map SV.v).toArray ++ Array.replicate (fn.ntmps - (args.map SV.v).toArray.size) undef).getD t undef=(args[t]).v:=by
     simp [Array.getElem?_append,hlt]
    rw [e2]
    exact is_v _
   ·have e1:args.getD t .top=.top:=by simp [List.getElem?_eq_none hge]
    rw [e1]; trivial
 have hnb:∀ {q b e l},¬ boxAt (argFr 0 args) q b e l:=by
  intro q b e l hx
  rcases qjk args 0 q with ⟨h1,_⟩ | ⟨_,h2⟩
  ·omega
  ·unfold boxAt at hx
   rw [h2,Nat.sub_zero] at hx
   rcases Nat.lt_or_ge q args.length with hlt | hge
   ·have hk:(args[q]).known=true:=List.all_eq_true.1 hargs _ (List.getElem_mem hlt)
    have e1:args.getD q .top=args[q]:=by simp [hlt]
    rw [e1] at hx
    rcases hx with hx | hx <;> rw [hx] at hk <;> simp [SV.known] at hk
   ·have e1:args.getD q .top=.top:=by simp [List.getElem?_eq_none hge]
    rw [e1] at hx; simp at hx
 have hB:Bx n (argFr 0 args) m:=⟨fun _ _ _ _ h=>absurd h hnb,fun _ _ _ _ _ _ _ _ _ h=>absurd h hnb,fun _ _ _ _ h=>absurd h hnb⟩
 refine Code.wp_mono ?_ (qu2 hT hG hmix w c _ m _ _ w h hR hB hw (Same.refl w))
 intro e a' w' hq
 obtain ⟨he,fr',hR',hB',hs',hk',hq⟩:=hq.out
 have hfin:∀ (hq:resF T rs fr' w'.heap R),a'.defers=[]/\∃ v,(results fn a'.tmps).run P w'=.ok v w'/\∃ v',Ending.returned v=.returned v'/\Same w w'/\R v' w'.heap:=by
  intro hq
  refine ⟨hR'.defers,?_⟩
  obtain ⟨l,h1,h2⟩:=qiy hT hR' rs _ w' hB' hq
  have hres:(results fn a'.tmps).run P w'=.ok (if h:(l.map SV.v).toArray.size=1 then (l.map SV.v).toArray[0] else .tuple (l.map SV.v).toArray) w':=by
   rw [qsp,hrs,Array.mapM_eq_mapM_toList]
   simp only [Sem.run_bind,Sem.run_map]
   rw [h2]
   rfl
  refine ⟨_,hres,_,rfl,hs',?_⟩
  cases l with
  | nil=>exact h1
  | cons x l=>cases l with
   | nil=>exact h1
   | cons y l=>exact h1
 cases e with
 | normal=>exact hfin hq
 | ret=>exact hfin hq
 | exit i=>exact hq.elim
 | goto i=>exact hq.elim
 | panic c=>exact absurd rfl (he.1 c)
 | outgrown=>exact absurd rfl he.2
end Go.Vc
end
section
/- Short words for values in conditions. -/
namespace Go.Vc
abbrev vi (n:Int):Value:=.int .i64 n
abbrev vb (b:Bool):Value:=.bool b
abbrev vp (b o:Nat):Value:=.pointer (some ⟨b,o,none⟩)
def qqx (f:Func):Code :=
 match f.body with
 | some c=>c
 | none=>.skip
end Go.Vc
end
section
/- How plain data lie in memory; what grows leaves the old as it was. -/
namespace Go.Vc
structure Ext (m m':Mem):Prop where
 size:m.size<=m'.size
 same:∀ b,b < m.size->m'[b]?=m[b]?
theorem Ext.refl (m:Mem):Ext m m:=⟨Nat.le_refl _,fun _ _=>rfl⟩
theorem Ext.trans {a b c:Mem} (h:Ext a b) (k:Ext b c):Ext a c :=
 ⟨Nat.le_trans h.size k.size,fun i hi=>(k.same i (Nat.lt_of_lt_of_le hi h.size)).trans (h.same i hi)⟩
theorem Ext.push (m:Mem) (o:Obj):Ext m (m.push o) :=
 ⟨by simp,fun b hb=>by rw [Array.getElem?_push,if_neg (by omega)]⟩
theorem Ext.pushed {a m:Mem} (h:Ext a m) (o:Obj):Ext a (m.push o):=h.trans (Ext.push m o)
theorem Ext.scells {a m:Mem} (h:Ext a m) {b:Nat} (hb:a.size<=b) (o:Nat) (l:List Ce):Ext a (scells m b o l) :=
 ⟨by rw [q02]; exact h.size,fun j hj=>by rw [q0n l m b o (by omega)]; exact h.same j hj⟩
theorem Ext.gcell {m m':Mem} (h:Ext m m') {b o:Nat} {v:Value} (hg:gcell m b o=some v):gcell m' b o=some v:=by
 rw [q16 (h.same b (q5m hg))]; exact hg
theorem Ext.row {m m':Mem} (h:Ext m m') {b o:Nat} {l:List Ce} (hr:rowIs m b o l):rowIs m' b o l:=fun i c hc=>h.gcell (hr i c hc)
theorem Blk.ext {m m':Mem} (h:Ext m m') {b e:Nat} {l:List Ce} (hb:Blk m b e l):Blk m' b e l:=by
 unfold Blk at *; rw [h.same b (Array.getElem?_eq_some_iff.1 hb).1]; exact hb
structure SlOf {α:Type} (m:Mem) (sz:Nat) (R:List Ce->α->Prop) (s:Sl) (l:List α):Prop where
 len:s.len=l.length
 cap:s.len<=s.cap
 lim:s.len<=9223372036854775807
 row:∀ (k:Nat) (x:α),l[k]?=some x->∃ cs,R cs x/\rowIs m s.blk (s.off+k*sz) cs
theorem SlOf.mono {α:Type} {m m':Mem} {sz:Nat} {R R':List Ce->α->Prop} {s:Sl} {l:List α} (h:SlOf m sz R s l) (hm:Ext m m') (hR:∀ cs x,R cs x->R' cs x):SlOf m' sz R' s l :=
 ⟨h.len,h.cap,h.lim,fun k x hk=>let ⟨cs,h1,h2⟩:=h.row k x hk; ⟨cs,hR _ _ h1,hm.row h2⟩⟩
def IntR (cs:List Ce) (n:Int):Prop:=cs=[.i n]
abbrev q03 (m:Mem) (s:Sl) (l:List Int):Prop:=SlOf m 1 IntR s l
theorem q03.at' {m:Mem} {s:Sl} {l:List Int} (h:q03 m s l) {k:Nat} {x:Int} (hk:l[k]?=some x):gcell m s.blk (s.off+k*1)=some (vi x):=by
 obtain ⟨cs,rfl,hr⟩:=h.row k x hk
 exact hr 0 (.i x) rfl
theorem q03.ext {m m':Mem} (hm:Ext m m') {s:Sl} {l:List Int} (h:q03 m s l):q03 m' s l:=h.mono hm fun _ _ h=>h
theorem q00 {α:Type} {l:List α} {k:Nat} (h:k < l.length):∃ x,l[k]?=some x:=⟨l[k],by simp [h]⟩
theorem q04 {α:Type} {l:List α} {k:Nat} {x:α} (h:l[k]?=some x):k < l.length:=(List.getElem?_eq_some_iff.1 h).1
theorem q06 {α:Type} {l:List α} {k:Nat} {x:α} (h:l[k]?=some x):l.take (k+1)=l.take k ++ [x]:=by
 rw [List.take_add_one,h]; rfl
theorem q0b {α:Type} {l:List α} {k:Nat} (h:l.length<=k):l.take k=l:=List.take_of_length_le h
def Gets (P:Program) (f:Nat) (args:List Value) (m:Mem) (v:Value):Prop:=q08 P f args m fun v' m'=>v'=v/\Ext m m'
theorem q08.post {P:Program} {f:Nat} {args:List Value} {m:Mem} {K K':Value->Mem->Prop} (h:q08 P f args m K) (hk:∀ v m',K v m'->K' v m'):q08 P f args m K':=h.mono hk
theorem Gets.then {P:Program} {f:Nat} {args:List Value} {m:Mem} {v:Value} {K:Value->Mem->Prop} (h:Gets P f args m v) (hk:∀ m',Ext m m'->K v m'):q08 P f args m K :=
 h.mono fun _ _ ⟨he,hx⟩=>he ▸ hk _ hx
theorem Sl.v_inj {s t:Sl}:s.v=t.v ↔ s=t:=by
 refine ⟨fun h=>?_,fun h=>h ▸ rfl⟩
 cases s <;> cases t <;> simp_all [Sl.v]
theorem Ext.sam {m m':Mem} (h:Ext m m') {l:List Nat} (hl:∀ b ∈ l,b < m.size):Sam l m m':=fun b hb=>h.same b (hl b hb)
theorem Ext.lt {m m':Mem} (h:Ext m m') {b:Nat} (hb:b < m.size):b < m'.size:=Nat.lt_of_lt_of_le hb h.size
theorem Ext.keepG {m m':Mem} (h:Ext m m') {b o:Nat} {v:Value} (hg:Vc.gcell m b o=some v):Vc.gcell m' b o=Vc.gcell m b o:=by rw [h.gcell hg,hg]
theorem q6l {k n:Nat} (h:k < n) (hn:n<=9223372036854775807):w64 ((k:Int)+1)=((k+1:Nat):Int):=by rw [q07 (by omega) (by omega)]; rfl
theorem mu_lt {n k:Nat} (h:k < n):((n:Int) - ((k+1:Nat):Int)).toNat < ((n:Int) - (k:Int)).toNat:=by omega
theorem forI {n:Nat} (hn:n<=9223372036854775807) {m:Mem} {Body:(Int->Mem->Prop)->(Int->Mem->Nat)->Int->Mem->Prop} (Q:Nat->Mem->Prop) (h0:Q 0 m)
  (h:∀ (k:Nat) (m1:Mem) (I:Int->Mem->Prop) (μ:Int->Mem->Nat),k<=n->Q k m1 ->
   (k < n->∀ m',Q (k+1) m'->I (w64 ((k:Int)+1)) m'/\μ (w64 ((k:Int)+1)) m' < μ k m1)->Body I μ k m1) :
  ∃ (I:Int->Mem->Prop) (μ:Int->Mem->Nat),I 0 m/\∀ i m1,I i m1->Body I μ i m1:=by
 refine ⟨fun i m'=>∃ k:Nat,i=k/\k<=n/\Q k m',fun i _=>(n - i).toNat,⟨0,rfl,Nat.zero_le _,h0⟩,?_⟩
 rintro i m1 ⟨k,rfl,hk,hq⟩
 refine h k m1 _ _ hk hq fun hlt m' hq'=>?_
 rw [q6l hlt hn]
 exact ⟨⟨k+1,rfl,hlt,hq'⟩,mu_lt hlt⟩
theorem forSI {σ:Type} {n:Nat} (hn:n<=9223372036854775807) {m:Mem} {s0:σ} {Body:(σ->Int->Mem->Prop)->(σ->Int->Mem->Nat)->σ->Int->Mem->Prop} (Q:Nat->σ->Mem->Prop) (h0:Q 0 s0 m)
  (h:∀ (k:Nat) (s:σ) (m1:Mem) (I:σ->Int->Mem->Prop) (μ:σ->Int->Mem->Nat),k<=n->Q k s m1 ->
   (k < n->∀ s' m',Q (k+1) s' m'->I s' (w64 ((k:Int)+1)) m'/\μ s' (w64 ((k:Int)+1)) m' < μ s k m1)->Body I μ s k m1) :
  ∃ (I:σ->Int->Mem->Prop) (μ:σ->Int->Mem->Nat),I s0 0 m/\∀ s i m1,I s i m1->Body I μ s i m1:=by
 refine ⟨fun s i m'=>∃ k:Nat,i=k/\k<=n/\Q k s m',fun _ i _=>(n - i).toNat,⟨0,rfl,Nat.zero_le _,h0⟩,?_⟩
 rintro s i m1 ⟨k,rfl,hk,hq⟩
 refine h k s m1 _ _ hk hq fun hlt s' m' hq'=>?_
 rw [q6l hlt hn]
 exact ⟨⟨k+1,rfl,hlt,hq'⟩,mu_lt hlt⟩
def q0o (P:Program) (f:Nat) (args:List Value) (m:Mem) (p:Prop):Prop:=q08 P f args m fun v m'=>∃ b:Bool,v=.bool b/\(b=true ↔ p)/\Ext m m'
theorem q0o.then {P:Program} {f:Nat} {args:List Value} {m:Mem} {p:Prop} {K:Value->Mem->Prop} (h:q0o P f args m p) (hk:∀ (b:Bool) m',(b=true ↔ p)->Ext m m'->K (.bool b) m'):q08 P f args m K :=
 h.mono fun _ _ ⟨b,he,hb,hx⟩=>he ▸ hk b _ hb hx
theorem q0o.thenS {P:Program} {f:Nat} {args:List Value} {m m0:Mem} {p:Prop} {K:Value->Mem->Prop} {l:List Nat} (h:q0o P f args m p) (hx:Ext m0 m) (hl:∀ b ∈ l,b < m0.size)
  (hk:∀ (b:Bool) m',(b=true ↔ p)->Ext m m'->Ext m0 m'->K (.bool b) m'):q08 P f args m fun v m'=>Sam l m m'/\K v m' :=
 h.mono fun _ _ ⟨b,he,hb,h2⟩=>⟨h2.sam fun c hc=>hx.lt (hl c hc),he ▸ hk b _ hb h2 (hx.trans h2)⟩
theorem Gets.thenS {P:Program} {f:Nat} {args:List Value} {m m0:Mem} {v:Value} {K:Value->Mem->Prop} {l:List Nat} (h:Gets P f args m v) (hx:Ext m0 m) (hl:∀ b ∈ l,b < m0.size)
  (hk:∀ m',Ext m m'->Ext m0 m'->K v m'):q08 P f args m fun v m'=>Sam l m m'/\K v m' :=
 h.mono fun _ _ ⟨he,h2⟩=>⟨h2.sam fun c hc=>hx.lt (hl c hc),he ▸ hk _ h2 (hx.trans h2)⟩
theorem q08.thenS {P:Program} {f:Nat} {args:List Value} {m m0:Mem} {K K':Value->Mem->Prop} {l:List Nat} (h:q08 P f args m K) (hx:Ext m0 m) (hl:∀ b ∈ l,b < m0.size)
  (hk:∀ v m',K v m'->Ext m m'/\K' v m'):q08 P f args m fun v m'=>Sam l m m'/\K' v m' :=
 h.mono fun v m' hv=>⟨(hk v m' hv).1.sam fun c hc=>hx.lt (hl c hc),(hk v m' hv).2⟩
theorem retB {m m':Mem} {p:Prop} {b:Bool} (h:b=true ↔ p) (hx:Ext m m'):∃ b':Bool,Value.bool b=.bool b'/\(b'=true ↔ p)/\Ext m m':=⟨b,rfl,h,hx⟩
theorem retF {m m':Mem} {p:Prop} (h:¬ p) (hx:Ext m m'):∃ b':Bool,Value.bool false=.bool b'/\(b'=true ↔ p)/\Ext m m':=⟨false,rfl,by simp [h],hx⟩
theorem retT {m m':Mem} {p:Prop} (h:p) (hx:Ext m m'):∃ b':Bool,Value.bool true=.bool b'/\(b'=true ↔ p)/\Ext m m':=⟨true,rfl,by simp [h],hx⟩
theorem nb {b:Bool} {p:Prop} (hb:b=true ↔ p) (h:(!b)=true):¬ p:=fun hp=>by simp [hb.2 hp] at h
theorem yb {b:Bool} {p:Prop} (hb:b=true ↔ p) (h:(!b)=false):p:=hb.1 (by simpa using h)
theorem fb {b:Bool} {p:Prop} (hb:b=true ↔ p) (h:b=false):¬ p:=fun hp=>by simp [hb.2 hp] at h
theorem q0f {α:Type} {l:List α} {k:Nat} {x:α} {p:α->Prop} (hx:l[k]?=some x) (h:∀ y ∈ l.take k,p y) (hp:p x):∀ y ∈ l.take (k+1),p y:=by
 rw [q06 hx]
 intro y hy
 rcases List.mem_append.1 hy with hy | hy
 ·exact h y hy
 ·simp at hy; subst hy; exact hp
theorem q0w {α:Type} {l:List α} {k:Nat} {p:α->Prop} (hk:l.length<=k) (h:∀ y ∈ l.take k,p y):∀ y ∈ l,p y:=by rw [← q0b hk]; exact h
theorem q05 {α:Type} {l:List α} {k:Nat} {x:α} (h:l[k]?=some x):x ∈ l:=List.mem_of_getElem? h
end Go.Vc
end
section
/- The program's data as plain data, and how they lie in memory. -/
namespace Go.Vc
structure Decl where
 frm:Int
 to:Int
 cons:List (List Int)
structure Instr where
 op:Int
 dst:Int
 num:Int
 into:Int
 args:List Int
 jumps:List Int
structure Proc where
 params:List Int
 lent:List Int
 result:Int
 regs:Int
 code:List Instr
structure Image where
 decls:List Decl
 procs:List Proc
def ConR (m:Mem) (cs:List Ce) (c:List Int):Prop:=∃ f,cs=[.s f]/\q03 m f c
def DeclR (m:Mem) (cs:List Ce) (d:Decl):Prop:=∃ f,cs=[.i d.frm,.i d.to,.s f]/\SlOf m 1 (ConR m) f d.cons
def InstrR (m:Mem) (cs:List Ce) (x:Instr):Prop:=∃ a j,cs=[.i x.op,.i x.dst,.i x.num,.i x.into,.s a,.s j]/\q03 m a x.args/\q03 m j x.jumps
def ProcR (m:Mem) (cs:List Ce) (p:Proc):Prop :=
 ∃ a l c,cs=[.s a,.s l,.i p.result,.i p.regs,.s c]/\q03 m a p.params/\q03 m l p.lent/\SlOf m 6 (InstrR m) c p.code
abbrev ConSl (m:Mem) (s:Sl) (l:List (List Int)):Prop:=SlOf m 1 (ConR m) s l
abbrev q0q (m:Mem) (s:Sl) (l:List Decl):Prop:=SlOf m 3 (DeclR m) s l
abbrev q1c (m:Mem) (s:Sl) (l:List Instr):Prop:=SlOf m 6 (InstrR m) s l
abbrev ProcSl (m:Mem) (s:Sl) (l:List Proc):Prop:=SlOf m 5 (ProcR m) s l
structure ImageR (m:Mem) (d p:Sl) (im:Image):Prop where
 decls:q0q m d im.decls
 procs:ProcSl m p im.procs
theorem ConR.ext {m m':Mem} (hm:Ext m m') (cs:List Ce) (c:List Int):ConR m cs c->ConR m' cs c:=fun ⟨f,h1,h2⟩=>⟨f,h1,h2.ext hm⟩
theorem ConSl.ext {m m':Mem} (hm:Ext m m') {s:Sl} {l:List (List Int)} (h:ConSl m s l):ConSl m' s l:=h.mono hm (ConR.ext hm)
theorem DeclR.ext {m m':Mem} (hm:Ext m m') (cs:List Ce) (c:Decl):DeclR m cs c->DeclR m' cs c:=fun ⟨f,h1,h2⟩=>⟨f,h1,ConSl.ext hm h2⟩
theorem q0q.ext {m m':Mem} (hm:Ext m m') {s:Sl} {l:List Decl} (h:q0q m s l):q0q m' s l:=h.mono hm (DeclR.ext hm)
theorem InstrR.ext {m m':Mem} (hm:Ext m m') (cs:List Ce) (c:Instr):InstrR m cs c->InstrR m' cs c:=fun ⟨a,j,h1,h2,h3⟩=>⟨a,j,h1,h2.ext hm,h3.ext hm⟩
theorem q1c.ext {m m':Mem} (hm:Ext m m') {s:Sl} {l:List Instr} (h:q1c m s l):q1c m' s l:=h.mono hm (InstrR.ext hm)
theorem ProcR.ext {m m':Mem} (hm:Ext m m') (cs:List Ce) (c:Proc):ProcR m cs c->ProcR m' cs c:=fun ⟨a,l,c,h1,h2,h3,h4⟩=>⟨a,l,c,h1,h2.ext hm,h3.ext hm,q1c.ext hm h4⟩
theorem ProcSl.ext {m m':Mem} (hm:Ext m m') {s:Sl} {l:List Proc} (h:ProcSl m s l):ProcSl m' s l:=h.mono hm (ProcR.ext hm)
theorem ImageR.ext {m m':Mem} (hm:Ext m m') {d p:Sl} {im:Image} (h:ImageR m d p im):ImageR m' d p im:=⟨q0q.ext hm h.decls,ProcSl.ext hm h.procs⟩
theorem ConSl.at' {m:Mem} {s:Sl} {l:List (List Int)} (h:ConSl m s l) {k:Nat} {x:List Int} (hk:l[k]?=some x) :
  ∃ f,q03 m f x/\gcell m s.blk (s.off+k*1)=some (Sl.v f):=by
 obtain ⟨cs,⟨f,rfl,hf⟩,hr⟩:=h.row k x hk
 exact ⟨f,hf,hr 0 (.s f) rfl⟩
theorem q0q.at' {m:Mem} {s:Sl} {l:List Decl} (h:q0q m s l) {k:Nat} {x:Decl} (hk:l[k]?=some x) :
  ∃ f,ConSl m f x.cons/\gcell m s.blk (s.off+k*3)=some (vi x.frm)/\gcell m s.blk (s.off+k*3+1)=some (vi x.to)/\gcell m s.blk (s.off+k*3+2)=some (Sl.v f):=by
 obtain ⟨cs,⟨f,rfl,hf⟩,hr⟩:=h.row k x hk
 exact ⟨f,hf,hr 0 (.i x.frm) rfl,hr 1 (.i x.to) rfl,hr 2 (.s f) rfl⟩
theorem q1c.at' {m:Mem} {s:Sl} {l:List Instr} (h:q1c m s l) {k:Nat} {x:Instr} (hk:l[k]?=some x) :
  ∃ a j,q03 m a x.args/\q03 m j x.jumps/\gcell m s.blk (s.off+k*6)=some (vi x.op)/\gcell m s.blk (s.off+k*6+1)=some (vi x.dst)/\gcell m s.blk (s.off+k*6+2)=some (vi x.num) /\
   gcell m s.blk (s.off+k*6+3)=some (vi x.into)/\gcell m s.blk (s.off+k*6+4)=some (Sl.v a)/\gcell m s.blk (s.off+k*6+5)=some (Sl.v j):=by
 obtain ⟨cs,⟨a,j,rfl,ha,hj⟩,hr⟩:=h.row k x hk
 exact ⟨a,j,ha,hj,hr 0 (.i x.op) rfl,hr 1 (.i x.dst) rfl,hr 2 (.i x.num) rfl,hr 3 (.i x.into) rfl,hr 4 (.s a) rfl,hr 5 (.s j) rfl⟩
theorem ProcSl.at' {m:Mem} {s:Sl} {l:List Proc} (h:ProcSl m s l) {k:Nat} {x:Proc} (hk:l[k]?=some x) :
  ∃ a b c,q03 m a x.params/\q03 m b x.lent/\q1c m c x.code/\gcell m s.blk (s.off+k*5)=some (Sl.v a)/\gcell m s.blk (s.off+k*5+1)=some (Sl.v b)/\gcell m s.blk (s.off+k*5+2)=some (vi x.result) /\
   gcell m s.blk (s.off+k*5+3)=some (vi x.regs)/\gcell m s.blk (s.off+k*5+4)=some (Sl.v c):=by
 obtain ⟨cs,⟨a,b,c,rfl,ha,hb,hc⟩,hr⟩:=h.row k x hk
 exact ⟨a,b,c,ha,hb,hc,hr 0 (.s a) rfl,hr 1 (.s b) rfl,hr 2 (.i x.result) rfl,hr 3 (.i x.regs) rfl,hr 4 (.s c) rfl⟩
end Go.Vc
end
namespace Go.Proofs.YtpggcodlaajceaaGreat
open Go.Vc
section
def TBL:TT:=[(0,⟨.tuple [],[],0⟩),
 (3,⟨.cell,[.I],8⟩),
 (4,⟨.cell,[.T],1⟩),
 (22,⟨.slice 109,[.S],24⟩),
 (23,⟨.slice 113,[.S],24⟩),
 (25,⟨.struct [(0,22),(1,23)],[.S,.S],48⟩),
 (27,⟨.slice 3,[.S],24⟩),
 (29,⟨.struct [(0,3),(1,3),(2,3),(3,27)],[.I,.I,.I,.S],48⟩),
 (30,⟨.tuple [29,4],[],0⟩),
 (32,⟨.slice 122,[.S],24⟩),
 (33,⟨.slice 89,[.S],24⟩),
 (35,⟨.struct [(0,32),(1,33)],[.S,.S],48⟩),
 (43,⟨.struct [(0,3),(1,3),(2,3),(3,3),(4,3),(5,3),(6,3),(7,3)],[.I,.I,.I,.I,.I,.I,.I,.I],64⟩),
 (44,⟨.tuple [43,4],[],0⟩),
 (47,⟨.slice 151,[.S],24⟩),
 (48,⟨.slice 153,[.S],24⟩),
 (50,⟨.struct [(0,3),(1,3),(2,3),(3,3),(4,27),(5,47),(6,48)],[.I,.I,.I,.I,.S,.S,.S],104⟩),
 (52,⟨.slice 149,[.S],24⟩),
 (53,⟨.slice 84,[.S],24⟩),
 (55,⟨.struct [(0,3),(1,3),(2,3),(3,3),(4,27),(5,52),(6,53)],[.I,.I,.I,.I,.S,.S,.S],104⟩),
 (56,⟨.tuple [55,4],[],0⟩),
 (74,⟨.struct [(0,35),(2,3),(3,55)],[.S,.S,.I,.I,.I,.I,.I,.S,.S,.S],160⟩),
 (84,⟨.struct [(0,3),(1,3),(2,3),(3,27),(4,27),(5,27)],[.I,.I,.I,.S,.S,.S],96⟩),
 (86,⟨.struct [(0,3),(1,3),(2,3),(3,3),(4,27),(5,27)],[.I,.I,.I,.I,.S,.S],80⟩),
 (87,⟨.slice 86,[.S],24⟩),
 (89,⟨.struct [(0,27),(1,27),(2,3),(3,3),(4,87)],[.S,.S,.I,.I,.S],88⟩),
 (94,⟨.cell,[.P],8⟩),
 (97,⟨.struct [(0,35),(2,55)],[.S,.S,.I,.I,.I,.I,.S,.S,.S],152⟩),
 (107,⟨.slice 222,[.S],24⟩),
 (109,⟨.struct [(0,3),(1,3),(2,107)],[.I,.I,.S],40⟩),
 (111,⟨.slice 224,[.S],24⟩),
 (113,⟨.struct [(0,27),(1,27),(2,3),(3,3),(4,111)],[.S,.S,.I,.I,.S],88⟩),
 (115,⟨.slice 176,[.S],24⟩),
 (117,⟨.struct [(0,32),(1,115)],[.S,.S],48⟩),
 (120,⟨.slice 201,[.S],24⟩),
 (122,⟨.struct [(0,3),(1,3),(2,120)],[.I,.I,.S],40⟩),
 (125,⟨.slice 183,[.S],24⟩),
 (127,⟨.struct [(0,32),(1,125)],[.S,.S],48⟩),
 (128,⟨.tuple [127,4],[],0⟩),
 (132,⟨.cell,[.P],8⟩),
 (133,⟨.cell,[.P],8⟩),
 (140,⟨.cell,[.P],8⟩),
 (142,⟨.struct [(0,3),(1,3),(2,3),(3,3),(4,3),(5,3),(6,3),(7,3)],[.I,.I,.I,.I,.I,.I,.I,.I],64⟩),
 (143,⟨.tuple [3,3],[],0⟩),
 (146,⟨.cell,[.P],8⟩),
 (149,⟨.struct [(0,3),(1,3),(2,27)],[.I,.I,.S],40⟩),
 (151,⟨.struct [(0,3),(1,3),(2,27)],[.I,.I,.S],40⟩),
 (153,⟨.struct [(0,3),(1,3),(2,3),(3,27),(4,27),(5,27)],[.I,.I,.I,.S,.S,.S],96⟩),
 (159,⟨.cell,[.F],8⟩),
 (172,⟨.slice 174,[.S],24⟩),
 (174,⟨.struct [(0,3),(1,3),(2,172)],[.I,.I,.S],40⟩),
 (176,⟨.struct [(0,27),(1,3),(2,174)],[.S,.I,.I,.I,.S],72⟩),
 (183,⟨.struct [(0,27),(1,27),(2,3)],[.S,.S,.I],56⟩),
 (188,⟨.tuple [27,27],[],0⟩),
 (193,⟨.slice 149,[.S],24⟩),
 (201,⟨.struct [(0,27)],[.S],24⟩),
 (217,⟨.tuple [27,4],[],0⟩),
 (222,⟨.struct [(0,27)],[.S],24⟩),
 (224,⟨.struct [(0,3),(1,3),(2,3),(3,3),(4,27),(5,27)],[.I,.I,.I,.I,.S,.S],80⟩),
 (232,⟨.tuple [3,4],[],0⟩),
 (234,⟨.cell,[.F],8⟩),
 (235,⟨.cell,[.P],8⟩),
 (239,⟨.slice 4,[.S],24⟩),
 (244,⟨.tuple [3,201],[],0⟩),
 (246,⟨.map 3 3,[.M],8⟩)]
abbrev q70:Nat:=4
abbrev q35:Nat:=149
abbrev qex:Nat:=201
abbrev qd2:Nat:=122
abbrev q1l:Nat:=84
abbrev q6g:Nat:=176
abbrev q2d:Nat:=86
abbrev q9h:Nat:=89
abbrev q6b:Nat:=117
abbrev q1s:Nat:=55
abbrev q1a:Nat:=193
abbrev q0k:Nat:=74
abbrev q7g:Nat:=183
abbrev q50:Nat:=127
abbrev ty_int:Nat:=3
abbrev q0l:Nat:=97
abbrev q7q:Nat:=6
abbrev qaz:Nat:=7
abbrev q2v:Nat:=9
abbrev qat:Nat:=12
abbrev q86:Nat:=13
abbrev qar:Nat:=19
abbrev q26:Nat:=21
abbrev q4k:Nat:=23
abbrev q5t:Nat:=24
abbrev q5p:Nat:=25
abbrev q3i:Nat:=26
abbrev q30:Nat:=27
abbrev qah:Nat:=28
abbrev qav:Nat:=29
abbrev q7m:Nat:=30
abbrev q0d:Nat:=31
abbrev qan:Nat:=34
abbrev qa0:Nat:=35
abbrev q76:Nat:=36
abbrev q3j:Nat:=37
abbrev q64:Nat:=39
abbrev q22:Nat:=40
abbrev qag:Nat:=41
abbrev qa5:Nat:=42
abbrev q87:Nat:=43
abbrev q8p:Nat:=44
abbrev q1t:Nat:=45
abbrev q3g:Nat:=46
abbrev q25:Nat:=50
abbrev qae:Nat:=51
abbrev q9d:Nat:=52
abbrev q78:Nat:=53
abbrev q5n:Nat:=54
abbrev q67:Nat:=55
abbrev q23:Nat:=56
abbrev qaw:Nat:=57
abbrev q93:Nat:=58
abbrev q7o:Nat:=59
abbrev q3m:Nat:=60
abbrev qa6:Nat:=61
abbrev q9b:Nat:=62
abbrev q83:Nat:=63
abbrev q7k:Nat:=64
abbrev q84:Nat:=65
abbrev q7d:Nat:=66
abbrev q6t:Nat:=67
abbrev qbv:Nat:=68
abbrev qc4:Nat:=69
abbrev q8h:Nat:=70
abbrev q6m:Nat:=71
abbrev q82:Nat:=72
abbrev q15:Nat:=73
abbrev qbw:Nat:=75
abbrev qbn:Nat:=76
abbrev q8v:Nat:=77
abbrev q3u:Nat:=78
abbrev q9u:Nat:=79
abbrev q41:Nat:=80
abbrev q4b:Nat:=81
abbrev qby:Nat:=82
abbrev qbt:Nat:=83
abbrev q9f:Nat:=84
abbrev q7f:Nat:=85
abbrev qbj:Nat:=89
abbrev qac:Nat:=90
abbrev q7n:Nat:=91
abbrev q8j:Nat:=92
abbrev q75:Nat:=93
abbrev q9e:Nat:=94
abbrev q6k:Nat:=95
abbrev q1f:Nat:=96
abbrev qc0:Nat:=97
abbrev q69:Nat:=98
abbrev q6v:Nat:=99
abbrev q45:Nat:=100
abbrev q40:Nat:=101
abbrev qbu:Nat:=102
abbrev qa7:Nat:=103
abbrev q7j:Nat:=104
abbrev q11:Nat:=105
abbrev q8d:Nat:=106
abbrev q2r:Nat:=107
abbrev qbx:Nat:=108
abbrev qap:Nat:=109
abbrev qc6:Nat:=110
abbrev q99:Nat:=111
abbrev q74:Nat:=112
abbrev q6e:Nat:=113
abbrev q8e:Nat:=114
abbrev q7a:Nat:=115
abbrev q4j:Nat:=116
abbrev qc5:Nat:=117
abbrev q92:Nat:=118
abbrev q8c:Nat:=119
abbrev q4p:Nat:=120
abbrev q0v:Nat:=121
abbrev q12:Nat:=122
abbrev q1j:Nat:=123
abbrev q2e:Nat:=124
abbrev q2p:Nat:=125
abbrev q3p:Nat:=126
abbrev q5g:Nat:=127
abbrev q4e:Nat:=128
abbrev q71:Nat:=129
abbrev q4t:Nat:=130
abbrev q4f:Nat:=131
abbrev q59:Nat:=132
abbrev q1m:Nat:=133
abbrev q4l:Nat:=134
abbrev q2u:Nat:=135
abbrev q2q:Nat:=136
abbrev q8t:Nat:=137
abbrev q68:Nat:=138
abbrev q3r:Nat:=139
abbrev q3z:Nat:=140
abbrev q5y:Nat:=141
abbrev q34:Nat:=142
abbrev q2x:Nat:=143
abbrev q4s:Nat:=144
abbrev qbo:Nat:=145
abbrev q9i:Nat:=146
abbrev q8o:Nat:=149
abbrev q7w:Nat:=150
abbrev q8f:Nat:=151
abbrev q8n:Nat:=152
abbrev q13:Nat:=153
abbrev q91:Nat:=154
abbrev q90:Nat:=155
abbrev q5f:Nat:=156
abbrev q63:Nat:=157
abbrev qb2:Nat:=158
abbrev q7e:Nat:=159
abbrev q4u:Nat:=160
abbrev q3q:Nat:=161
abbrev q3v:Nat:=162
abbrev q4r:Nat:=163
abbrev q1w:Nat:=164
abbrev q0z:Nat:=165
abbrev q5a:Nat:=166
abbrev q61:Nat:=167
abbrev q7v:Nat:=168
abbrev q27:Nat:=169
abbrev qem:Nat:=170
abbrev q3k:Nat:=171
abbrev q4y:Nat:=172
abbrev q5l:Nat:=173
abbrev q5v:Nat:=174
abbrev q4g:Nat:=175
abbrev q0s:Nat:=176
abbrev q8l:Nat:=177
abbrev q4q:Nat:=178
abbrev q38:Nat:=179
abbrev q44:Nat:=180
abbrev q5e:Nat:=181
abbrev q6o:Nat:=182
abbrev q65:Nat:=183
abbrev q7c:Nat:=184
abbrev q6n:Nat:=185
abbrev q2z:Nat:=186
abbrev qcy:Nat:=187
abbrev qa1:Nat:=188
abbrev q81:Nat:=189
abbrev q6x:Nat:=190
abbrev q8s:Nat:=191
abbrev q6d:Nat:=192
abbrev q77:Nat:=193
abbrev q5c:Nat:=194
abbrev qd3:Nat:=195
abbrev qaf:Nat:=196
abbrev q7b:Nat:=197
abbrev q6a:Nat:=198
abbrev q4v:Nat:=199
abbrev q49:Nat:=200
abbrev q9t:Nat:=201
abbrev q2n:Nat:=202
abbrev q24:Nat:=203
abbrev q89:Nat:=204
abbrev q29:Nat:=205
abbrev q52:Nat:=206
abbrev q7i:Nat:=207
abbrev qen:Nat:=208
abbrev q79:Nat:=209
abbrev q5o:Nat:=210
abbrev qcu:Nat:=211
abbrev qak:Nat:=212
abbrev qbm:Nat:=213
abbrev q8u:Nat:=214
abbrev qax:Nat:=215
abbrev q3e:Nat:=216
abbrev q4a:Nat:=217
abbrev q9k:Nat:=218
abbrev q5b:Nat:=219
abbrev q6i:Nat:=220
abbrev q85:Nat:=221
abbrev qd7:Nat:=222
abbrev qbr:Nat:=223
abbrev q46:Nat:=224
abbrev q7p:Nat:=225
abbrev q2o:Nat:=226
abbrev q88:Nat:=227
abbrev qd1:Nat:=228
abbrev q2l:Nat:=229
abbrev q33:Nat:=230
abbrev q8a:Nat:=231
theorem tbl_ok:TOK Tryz.prog TBL:=by
 unfold TOK
 kernel_rfl
def GL:List Nat:=[3,4,5,6,7,8,9,10,11,12,13,14,15,16,17,18,19,20,21,22,23,24,25,26,27,28,29,30,31,32,33,34,35,36,37,38,39,40,41,42,43,44,45,46,47,48,49,50,51,52,53,54,55,56,57,58,59,60,61,62,63,64,65,66,67,68,69,70,71,72,73,74,75,76,77,78,79,80,81,82,83,84,85,86,87,88,89,90,91,92,93,94,95,96,97,98,99,100,101,102,103,104,105,106,107,108,109,110,111,112,113,114,115,116,117,118,119,120,121,122,123,124,125,126,127,128,129,130,131,132,133,134,135,136,137,138,139,140,141,142,143,144,145,146,147,148,149,150,151,152,153,154,155,156,157,158,159,160,161,162,163,164,165,166,167,168,169,170,171,172,173,174,175,176,177,178,179,180,181,182,183,184,185,186,187,188,189,190,191,192,193,194,195,196,197,198,199,200,201,202,203,204,205,206,207,208,209,210,211,212,213,214,215,216,217,218,219,220,221,222,223,224,225,226,227,228,229,230,231]
theorem gok:GOK Tryz.prog GL:=by
 unfold GOK
 kernel_rfl
theorem mix:Tryz.prog.follows .mixedOrders=true:=by kernel_rfl
abbrev rI (m:Mem) (b o:Nat) (k:Int->Prop):Prop:=∃ v,gcell m b o=some (vi v)/\k v
abbrev rS (m:Mem) (b o:Nat) (k:Sl->Prop):Prop:=∃ v,gcell m b o=some (Sl.v v)/\k v
abbrev rB (m:Mem) (b o:Nat) (k:Bool->Prop):Prop:=∃ v,gcell m b o=some (vb v)/\k v
abbrev iP (c:Bool) (T F:Prop):Prop:=(c=true->T)/\(c=false->F)
abbrev rg (i:Int) (s:Sl) (k:Prop):Prop:=0<=i/\i < (s.len:Int)/\k
abbrev gk (a c:Mem) (b o:Nat):Prop:=gcell a b o=gcell c b o
abbrev eT (b:Nat) (k:Prop):Prop:=eqT b b k
abbrev eS (b e:Nat) (l:List Ce) (k:Prop):Prop:=eqS (SV.box b e l) (SV.box b e l) k
theorem q0a (b:Nat) (k:Prop):eT b k=k:=qtz b k
theorem q09 (b e:Nat) (l:List Ce) (k:Prop):eS b e l k=k:=qu6 _ k
abbrev cV:=q08 Tryz.prog
abbrev cI (f:Nat) (a:List Value) (l:List Nat) (m:Mem) (k:Int->Mem->Prop):Prop:=q08 Tryz.prog f a m fun r n=>Sam l m n/\∃ v,r=vi v/\k v n
abbrev cB (f:Nat) (a:List Value) (l:List Nat) (m:Mem) (k:Bool->Mem->Prop):Prop:=q08 Tryz.prog f a m fun r n=>Sam l m n/\∃ v,r=vb v/\k v n
abbrev cS (f:Nat) (a:List Value) (l:List Nat) (m:Mem) (k:Sl->Mem->Prop):Prop:=q08 Tryz.prog f a m fun r n=>Sam l m n/\∃ v,r=Sl.v v/\k v n
abbrev dI (f:Nat) (a:List Value) (m:Mem) (k:Int->Mem->Prop):Prop:=q08 Tryz.prog f a m fun r n=>∃ v,r=vi v/\k v n
abbrev dB (f:Nat) (a:List Value) (m:Mem) (k:Bool->Mem->Prop):Prop:=q08 Tryz.prog f a m fun r n=>∃ v,r=vb v/\k v n
abbrev dS (f:Nat) (a:List Value) (m:Mem) (k:Sl->Mem->Prop):Prop:=q08 Tryz.prog f a m fun r n=>∃ v,r=Sl.v v/\k v n
def bmG:List Nat->List Oper->List Nat
 | a,[]=>a
 | a,o :: r=>bmG (a ++ [befMask a o.after.toList]) r
def dr1 (i:Nat):Code->Option (List Oper)
 | .region j ops _=>bif Nat.beq i j then some ops.toList else none
 | .seq a b | .cond _ a b=>(dr1 i a).or (dr1 i b)
 | .loop a | .block _ a=>dr1 i a
 | _=>none
def dr (c:Code):List Nat->List (Nat × List Nat × List Nat)
 | []=>[]
 | i :: r=>match dr1 i c with
  | some ops=>(i,ops.map (fun o=>predMask o.after.toList),bmG [] ops) :: dr c r
  | none=>dr c r
theorem vcs {dl:List Nat} {A1 A2:List (Nat × List (Nat × Sh))} {A3:List (Nat × List Nat)} {args:List SV} {f:FuncId} {fn:Func} {m:Mem} {R:Value->Mem->Prop} {X:Prop} (hf:Tryz.prog.funcs[f]?=some fn) (hvc:X)
  (hb:fn.body=some (qqx fn):=by kernel_rfl) (hargs:args.all SV.known=true:=by kernel_rfl) (hle:Nat.ble args.length fn.ntmps=true:=by kernel_rfl)
  (he:X=vcFn Tryz.prog TBL GL ⟨dr (qqx fn) dl,A1,A2,A3⟩ fn.ntmps fn.results.toList (qqx fn) args m R:=by kernel_rfl):q08 Tryz.prog f (args.map SV.v) m R :=
 qss tbl_ok gok mix hf hb rfl (Array.toArray_toList (xs:=fn.results)).symm hargs (Nat.le_of_ble_eq_true hle) (Eq.mp he hvc)
end
section
set_option linter.unusedVariables false
set_option maxRecDepth 100000
variable {m:Mem} {R:Value->Mem->Prop}
end
section
set_option linter.unusedVariables false
set_option maxRecDepth 100000
variable {m:Mem} {R:Value->Mem->Prop}
end
end Go.Proofs.YtpggcodlaajceaaGreat
