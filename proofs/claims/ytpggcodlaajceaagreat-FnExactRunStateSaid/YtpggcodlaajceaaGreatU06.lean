/- Part of a proof, joined by a program: Pl5 Pl6 Iv1 Iv2 Iv3 Iv4 Iv5 Mv1. -/
import Derived.Test.YtpggcodlaajceaaGreatU05
set_option linter.unusedVariables false
set_option linter.unusedSimpArgs false
namespace Go.Proofs.YtpggcodlaajceaaGreat
open Go.Vc
section
theorem qgl {im:Image} {x:Instr}:∀ {l:List Int} {k:Nat} {r:Int},r ∈ unlent im x k l->r ∈ l
 | [],k,r,h=>by simp [unlent] at h
 | y :: l,k,r,h=>by
  simp only [unlent] at h
  split at h
  ·exact List.mem_cons_of_mem _ (qgl h)
  ·rcases List.mem_cons.1 h with rfl | h
   ·exact List.mem_cons_self
   ·exact List.mem_cons_of_mem _ (qgl h)
theorem qe6 {im:Image} {x:Instr} {r:Int} (h:r ∈ taken im x):r ∈ x.args:=by
 unfold taken at h
 split at h
 ·exact h
 split at h
 ·exact List.mem_of_mem_take h
 split at h
 ·exact qgl h
 ·simp at h
theorem qm3 {ds:List Decl} (h:TypesOk ds) (c:Int):(q2m ds c).length<=3:=by
 unfold q2m
 split
 ·cases hg:(q17 ds)[c.toNat]? with
  | none=>simp
  | some f =>
   have hm:=q05 hg
   unfold q17 at hm
   obtain ⟨d,hd,hfd⟩:=List.mem_flatMap.1 hm
   obtain ⟨k,hk⟩:=List.mem_iff_getElem?.1 hd
   have:=(h.each k d hk).some' (List.length_pos_of_mem hfd)
   exact (this.2.2.2 f hfd).1
 ·simp
theorem FrameOk.put {im:Image} {g:Frame} (h:FrameOk im g) {r w o:Int} (hr:0<=r) (hw:isInt w \/ 1000<=w) (ho:0<=o) (hp:0 < o->1000<=w):FrameOk im (g.put r w o):=by
 refine ⟨h.proc,h.pc,by simp only [Frame.put,q2y]; exact h.lr,by simp only [Frame.put,q2y]; exact h.lo,h.lh,fun y hy=>?_,fun k q y hq hy=>?_,h.held⟩
 ·rcases q5k hy with rfl | hy
  ·exact hw
  ·exact h.reg y hy
 ·simp only [Frame.put] at hq hy
  rw [qdn] at hq hy
  have:=h.lr
  have:=h.lo
  split at hq <;> split at hy
  ·simp at hq hy; subst hq; subst hy; exact ⟨ho,hp⟩
  ·omega
  ·omega
  ·exact h.own k q y hq hy
theorem qiw (w:Int):0<=q1g w:=by unfold q1g; split <;> omega
theorem qgb {w:Int} (h:0 < q1g w):1000<=w:=by unfold q1g at h; split at h <;> omega
theorem qci (w:Int) (b:Nat):(if w=1000+(b:Int) then q1g w else 0)=occ [w] b:=by
 simp only [occ,q1g]
 split
 ·rw [if_pos (by omega)]; rfl
 ·rfl
theorem qjt (n:Int):isInt (clamp n):=by unfold clamp isInt; split <;> (try split) <;> omega
theorem qrp (op a b:Int):isInt (prim op a b):=by
 unfold prim
 split
 ·exact qjt _
 split
 ·exact qjt _
 split
 ·exact qjt _
 split <;> (unfold isInt; omega)
theorem q4o (lent:List Int):∀ (ws:List Int) (k:Nat),(q10 lent k ws).length=ws.length
 | [],k=>rfl
 | w :: ws,k=>by simp only [q10,List.length_cons,q4o lent ws]
theorem qlz (lent:List Int):∀ (ws:List Int) (k j:Nat) (o w:Int),(q10 lent k ws)[j]?=some o->ws[j]?=some w->0<=o/\(0 < o->1000<=w)
 | [],k,j,o,w,_,h=>by simp at h
 | v :: ws,k,0,o,w,ho,hw=>by
  simp [q10] at ho hw
  subst hw
  split at ho
  ·subst ho; omega
  ·subst ho; exact ⟨qiw _,qgb⟩
 | v :: ws,k,j+1,o,w,ho,hw=>qlz lent ws (k+1) j o w (by simpa [q10] using ho) (by simpa using hw)
theorem q31 (n:Nat):(q0p n).length=n:=by simp [q0p]
theorem q8y {n:Nat} {w:Int} (h:w ∈ q0p n):w=0:=List.eq_of_mem_replicate h
theorem qep {im:Image} {g dst:Int} {ws:List Int} {p:Proc} (hi:ImageOk im) (h0:0<=g) (hp:im.procs[g.toNat]?=some p) (hl:ws.length=p.params.length) (hw:∀ w ∈ ws,isInt w \/ 1000<=w):FrameOk im (q0r im g dst ws):=by
 have e:q0y im g=p:=by simp [q0y,hp]
 have hpo:=hi.each p (q05 hp)
 have hr:=hpo.regs
 have hlen:=hpo.len
 have hlt:=q04 hp
 refine ⟨⟨h0,by simp only [q0r]; omega⟩,⟨by simp [q0r],by simp only [q0r,e]; omega⟩,?_,?_,?_,fun w h1=>?_,fun k o w ho h1=>?_,fun w h1=>Or.inl (q8y h1)⟩
 ·simp only [q0r,e,List.length_append,q31]; omega
 ·simp only [q0r,e,List.length_append,q31,q4o]; omega
 ·simp only [q0r,e,q31]; omega
 ·simp only [q0r] at h1
  rcases List.mem_append.1 h1 with h1 | h1
  ·exact hw w h1
  ·rw [q8y h1]; exact Or.inl (by unfold isInt; omega)
 ·simp only [q0r] at ho h1
  rcases Nat.lt_or_ge k ws.length with h2 | h2
  ·rw [List.getElem?_append_left (by rw [q4o]; exact h2)] at ho
   rw [List.getElem?_append_left h2] at h1
   exact qlz _ ws 0 k o w ho h1
  ·rw [List.getElem?_append_right (by rw [q4o]; exact h2)] at ho
   rw [q8y (List.mem_of_getElem? ho)]; omega
theorem qc8 (im:Image) (g dst:Int) (ws:List Int) (b:Nat):q0m (q0r im g dst ws).regs (q0r im g dst ws).own b=q0m ws (q10 (q0y im g).lent 0 ws) b:=by
 simp only [q0r]
 rw [qig _ _ (q4o _ _ _).symm,q96 (fun n hn=>q8y hn)]; omega
theorem qas (im:Image) (g dst:Int) (ws:List Int) (b:Nat):holds [q0r im g dst ws] b=0:=by
 rw [q2j]; exact qt3 _ _
theorem qk3 {im:Image} {x:Instr} (f:Frame):∀ (args:List Int) (k:Nat) (b:Nat),q0m (words f args) (q10 (q0y im x.num).lent k (words f args)) b=occ ((unlent im x k args).map (at' f.regs)) b
 | [],k,b=>by simp [words,q0m,unlent,occ]
 | r :: rs,k,b=>by
  have ih:=qk3 (im:=im) (x:=x) f rs (k+1) b
  simp only [words,List.map_cons,q10,q0m,unlent] at ih ⊢
  rw [ih]
  by_cases hl:lentIn im x k=true
  ·rw [if_pos hl]
   unfold lentIn at hl
   rw [if_pos hl]; split <;> omega
  ·rw [if_neg hl]
   unfold lentIn at hl
   rw [if_neg hl]
   simp only [List.map_cons,occ]
   have:=qci (at' f.regs r) b
   simp only [occ] at this
   omega
theorem qmb:∀ (ws:List Int) (k:Nat) (b:Nat),q0m ws (q10 [] k ws) b=occ ws b
 | [],k,b=>by simp [q0m,occ]
 | w :: ws,k,b=>by
  have:=qmb ws (k+1) b
  have h2:=qci w b
  simp only [occ] at h2
  simp only [q10,q0m,occ,this,List.any_nil,Bool.false_eq_true,if_false]
  omega
theorem StateOk.holdsSame {im:Image} {s:St} {hp:List Cell} {fs:List Frame} {f g:Frame} (h:StateOk im s) (hf:s.frames=fs ++ [f]) (hh:g.held=f.held) (hk:∀ b,Kept hp b ↔ Kept s.heap b) :
  (∀ a,Kept hp a->holds (fs ++ [g]) a=1)/\(∀ a,¬ Kept hp a->holds (fs ++ [g]) a=0):=by
 have e:∀ a,holds (fs ++ [g]) a=holds s.frames a:=fun a=>by rw [hf,q1e,q1e,q2j,q2j,hh]
 exact ⟨fun a ha=>by rw [e]; exact h.kept a ((hk a).1 ha),fun a ha=>by rw [e]; exact h.unkept a fun h2=>ha ((hk a).2 h2)⟩
theorem StateOk.push {im:Image} {s:St} (h:StateOk im s) (hr:s.status=3) {fs:List Frame} {f g:Frame} (hf:s.frames=fs ++ [f]) (hg:FrameOk im g) (hd:0<=g.dst/\g.dst < f.own.length/\at' f.own g.dst=0) {hp:List Cell} {calls:Int}
  (hh:HInv hp (owns (fs ++ [f,g]))) (ht:Trimmed hp) (hk:∀ a,Kept hp a->holds (fs ++ [f,g]) a=1) (hu:∀ a,¬ Kept hp a->holds (fs ++ [f,g]) a=0) (hc:calls=s.calls+1) (hm:s.calls < s.most) :
  StateOk im { s with heap:=hp,calls:=calls,frames:=fs ++ [f,g] }:=by
 have hc0:=h.calls
 have hdep:=h.depth
 rw [hf] at hdep
 refine ⟨h.image,h.status,⟨fun e=>by simp at e; omega,fun e=>by simp at e⟩,h.value,h.value0,h.most,⟨by simp only []; omega,by simp only []; omega⟩,by simp at hdep ⊢; omega,h.out,hh,ht,fun q hq=>?_,fun q hq=>?_,fun k p q hp hq=>?_,hk,hu⟩
 ·rcases List.mem_append.1 hq with hq | hq
  ·exact h.frames q (by rw [hf]; exact List.mem_append_left _ hq)
  ·simp at hq
   rcases hq with rfl | rfl
   ·exact h.frames _ (by rw [hf]; simp)
   ·exact hg
 ·have hfirst:=h.first
  rw [hf] at hfirst
  cases fs with
  | nil=>simp at hq; subst hq; exact hfirst f (by simp)
  | cons y ys=>simp at hq; subst hq; exact hfirst y (by simp)
 ·have hch:=h.chain k
  rw [hf] at hch
  simp only [] at hp hq
  have e:fs ++ [f,g]=(fs ++ [f]) ++ [g]:=by simp
  rw [e] at hp hq
  have hkl:=q04 hq
  simp at hkl
  rw [List.getElem?_append_left (by simp; omega)] at hp
  rcases Nat.lt_or_ge (k+1) (fs ++ [f]).length with h1 | h1
  ·rw [List.getElem?_append_left h1] at hq
   exact hch p q hp hq
  ·simp at h1
   rw [List.getElem?_append_right (by simp; omega)] at hq
   have e2:k+1 - (fs ++ [f]).length=0:=by simp; omega
   rw [e2] at hq; simp at hq; subst hq
   rw [List.getElem?_append_right (by omega)] at hp
   have e3:k - fs.length=0:=by omega
   rw [e3] at hp; simp at hp; subst hp; exact hd
set_option maxHeartbeats 1000000 in
theorem qsy {im:Image} {s:St} {fs:List Frame} {f:Frame} (h:StateOk im s) (hr:s.status=3) (hf:s.frames=fs ++ [f])
  (hm:MayRun im s f (q14 im f) (q0c f.regs f.own (taken im (q14 im f)))) (hcall:¬ (isCall (q14 im f).op/\s.calls=s.most)) :
  StateOk im (perform im s fs f (q14 im f) (q0c f.regs f.own (taken im (q14 im f)))):=by
 have hF:FrameOk im f:=h.frames f (by rw [hf]; simp)
 obtain ⟨p,hp,hpe,hP,hcode,hI⟩:=hF.instr h.image
 generalize q14 im f=x at *
 have ⟨lr,lo,lh⟩:(f.regs.length:Int)=p.regs/\(f.own.length:Int)=p.regs/\(f.held.length:Int)=p.regs:=⟨hpe ▸ hF.lr,hpe ▸ hF.lo,hpe ▸ hF.lh⟩
 have hArg:∀ a ∈ x.args,0<=a/\a < f.regs.length:=fun a ha=>by have:=hI.args a ha; omega
 have hTk:∀ r ∈ taken im x,0<=r/\r < f.regs.length:=fun r hr=>hArg r (qe6 hr)
 have how:=qcx (regs:=f.regs) (taken im x) f.own hTk (by omega)
 have hol:=q3c f.regs (taken im x) f.own
 have hle:=q3x (regs:=f.regs) (taken im x) f.own
 generalize q0c f.regs f.own (taken im x)=own at *
 have hfsok:∀ q ∈ fs,FrameOk im q:=fun q hq=>h.frames q (by rw [hf]; exact List.mem_append_left _ hq)
 have hEn:∀ b,0<=owns fs b+q0m f.regs own b:=fun b=>by
  have:=qki hfsok b; have:=q8m (regs:=f.regs) hm.nn b; omega
 have HE:HInv s.heap (fun b=>owns fs b+q0m f.regs own b+occ ((taken im x).map (at' f.regs)) b):=h.heap.congr fun b=>by
  rw [hf,q1u,q3t,how]; omega
 have hrange:∀ pc':Int,0<=pc'->pc' < p.code.length->FrameOk im { f with own:=own,pc:=pc' }:=fun pc' h0 h1 =>
  ⟨hF.proc,⟨h0,by rw [hpe]; exact h1⟩,hF.lr,by simp only [hol]; exact hF.lo,hF.lh,hF.reg,fun k o w ho hw=>by
   obtain ⟨q,hq,hqo⟩:=hle k o ho
   have h2:=hF.own k q w hq hw
   exact ⟨hm.nn o (List.mem_of_getElem? ho),fun hpos=>h2.2 (by omega)⟩,hF.held⟩
 have hpc:=hF.pc
 rw [hpe] at hpc
 have hnext:x.op ≠ 23->x.op ≠ 24->f.pc+1 < p.code.length:=fun h1 h2=>by
  rcases Classical.em (f.pc+1 < p.code.length) with h3 | h3
  ·exact h3
  ·have e:f.pc.toNat=p.code.length - 1:=by omega
   rw [e] at hcode
   have:=hP.last x hcode
   omega
 have hG:x.op ≠ 23->x.op ≠ 24->FrameOk im { f with own:=own,pc:=f.pc+1 }:=fun h1 h2=>hrange _ (by omega) (hnext h1 h2)
 have hreg:∀ r:Int,0<=r->r < f.regs.length->isInt (at' f.regs r) \/ 1000<=at' f.regs r:=fun r h0 h1=>hF.reg _ (q18 h0 h1)
 have hlt1000:∀ r:Int,0<=r->r < f.regs.length->at' f.regs r < 1000->isInt (at' f.regs r):=fun r h0 h1 h2=>by rcases hreg r h0 h1 with h3 | h3; exact h3; omega
 have hdst:=hI.dst
 have hd0:Sets x.op->at' own x.dst=0:=fun hs=>by
  have h1:=hm.dst hs
  have h2:=hm.nn _ (q18 (l:=own) hdst.1 (by omega)); omega
 have hword:∀ r ∈ taken im x,isWord s.heap (at' f.regs r):=fun r hrm=>by
  have hrr:=hTk r hrm
  rcases hreg r hrr.1 hrr.2 with h3 | h3
  ·exact Or.inl h3
  ·refine Or.inr ⟨h3,HE.lv _ ?_⟩
   have:=hEn (ix (at' f.regs r))
   have:=q8x (l:=(taken im x).map (at' f.regs)) (a:=ix (at' f.regs r)) (by rw [ptr_ix h3]; exact List.mem_map.2 ⟨r,hrm,rfl⟩)
   omega
 have hputOwns:∀ (pc':Int) (held':List Int) (w o:Int),Sets x.op->∀ b,owns (fs ++ [Frame.put { f with own:=own,pc:=pc',held:=held' } x.dst w o]) b=owns fs b+q0m f.regs own b+(if w=1000+(b:Int) then o else 0):=fun pc' held' w o hs b=>by
  rw [q1u,q3t]
  simp only [Frame.put]
  rw [qq9 hdst.1 (by omega) (by omega) (hd0 hs)]; omega
 -- a register is set,and nothing else
 have simple:∀ (w:Int) (out:List Int),Sets x.op->x.op ≠ 23->x.op ≠ 24->taken im x=[]->(isInt w \/ 1000<=w)->(∀ n ∈ out,isInt n)->StateOk im { s with out:=out,frames:=fs ++ [Frame.put { f with own:=own,pc:=f.pc+1 } x.dst w 0] }:=fun w out hs h1 h2 ht hw ho=>by
  obtain ⟨hk,hu⟩:=h.holdsSame hf (g:=Frame.put { f with own:=own,pc:=f.pc+1 } x.dst w 0) rfl (fun b=>Iff.rfl)
  refine h.top hr hf (hd:=rfl) ((hG h1 h2).put hdst.1 hw (Int.le_refl _) (fun h3=>by omega)) (HE.congr fun b=>?_) h.trimmed hk hu ho (calls:=s.calls) ⟨Int.le_refl _,h.calls.2⟩
  rw [hputOwns _ _ _ _ hs,ht]; simp [occ]
 -- only the place in the code changes
 have goto:∀ pc':Int,0<=pc'->pc' < p.code.length->taken im x=[]->StateOk im { s with frames:=fs ++ [{ f with own:=own,pc:=pc' }] }:=fun pc' h0 h1 ht=>by
  obtain ⟨hk,hu⟩:=h.holdsSame hf (g:={ f with own:=own,pc:=pc' }) rfl (fun b=>Iff.rfl)
  refine h.top hr hf (hd:=rfl) (hrange pc' h0 h1) (HE.congr fun b=>?_) h.trimmed hk hu h.out (calls:=s.calls) ⟨Int.le_refl _,h.calls.2⟩
  rw [q1u,q3t,ht]; simp [occ]
 have hOp:=hI.op
 unfold OpOk at hOp
 unfold perform
 simp only []
 by_cases e0:x.op=0
 ·rw [if_pos e0] at hOp ⊢
  exact simple _ _ (by unfold Sets; omega) (by omega) (by omega) (by simp [taken,e0]) (Or.inl hOp.2) h.out
 rw [if_neg e0] at hOp ⊢
 by_cases e1:x.op=1 \/ x.op=2 \/ x.op=3 \/ x.op=4
 ·rw [if_pos e1]
  exact simple _ _ (by unfold Sets; omega) (by omega) (by omega) (by unfold taken; rw [if_neg (by omega),if_neg (by omega),if_neg (by omega)]) (Or.inl (qrp _ _ _)) h.out
 rw [if_neg e1]
 -- the first argument
 have arg0:1<=x.args.length->0<=at' x.args 0/\at' x.args 0 < f.regs.length:=fun h1=>hArg _ (q18 (by omega) (by omega))
 by_cases e5:x.op=5
 ·rw [if_pos e5]
  rw [if_neg (by omega),if_pos (by omega)] at hOp
  have ha:=arg0 (by omega)
  have hint:isInt (at' f.regs (at' x.args 0)):=hlt1000 _ ha.1 ha.2 (hm.ints (by omega) _ (q18 (by omega) (by omega)))
  refine simple _ _ (by unfold Sets; omega) (by omega) (by omega) (by simp [taken,e5]) (Or.inl hint) fun n hn=>?_
  rcases List.mem_append.1 hn with hn | hn
  ·exact h.out n hn
  ·simp at hn; subst hn; exact hint
 rw [if_neg e5]
 have hwordsW:(taken im x=x.args)->∀ w ∈ words f x.args,isWord s.heap w:=fun ht w hw=>by
  obtain ⟨r,hr1,rfl⟩:=List.mem_map.1 hw
  exact hword r (ht ▸ hr1)
 -- a new cell
 have alloc:∀ t,taken im x=x.args->x.op ≠ 23->x.op ≠ 24->Sets x.op->x.args.length<=3->0<=t/\t<=99->StateOk im { s with heap:=place s.heap (q0t s.heap) ⟨1,t,words f x.args⟩,frames:=fs ++ [Frame.put { f with own:=own,pc:=f.pc+1 } x.dst (1000+q0t s.heap) 1] }:=fun t ht h1 h2 hs h3 htag=>by
  obtain ⟨k1,k2,k3⟩:=HE.alloc (t:=t) (fs:=words f x.args) (e':=owns (fs ++ [Frame.put { f with own:=own,pc:=f.pc+1 } x.dst (1000+q0t s.heap) 1])) (hwordsW ht) (by simpa [words] using h3) htag (fun b=>by rw [ht]; have:=hEn b; simp only [words]; omega) (fun b=>by
   rw [hputOwns _ _ _ _ hs,ht]
   simp only [words]
   have:(if (1000+(q0t s.heap:Int))=1000+(b:Int) then (1:Int) else 0)=if b=q0t s.heap then 1 else 0:=by
    by_cases hb:b=q0t s.heap
    ·rw [if_pos hb,if_pos (by omega)]
    ·rw [if_neg hb,if_neg (by omega)]
   rw [this]; omega) h.trimmed
  obtain ⟨hk,hu⟩:=h.holdsSame hf (g:=Frame.put { f with own:=own,pc:=f.pc+1 } x.dst (1000+q0t s.heap) 1) rfl k2
  exact h.top hr hf (hd:=rfl) ((hG h1 h2).put hdst.1 (Or.inr (by omega)) (by omega) (fun _=>by omega)) k1 k3 hk hu h.out (calls:=s.calls) ⟨Int.le_refl _,h.calls.2⟩
 have h12:(q17 im.decls).length<=12:=by
  have:=fc_12 h.image.sigs.types im.decls.length
  rw [fc_all _ _ (Nat.le_refl _)] at this; exact this
 have hp4:=h.image.sigs.len
 by_cases e6:x.op=6
 ·rw [if_pos e6]
  rw [if_neg (by omega),if_neg (by omega),if_pos e6] at hOp
  have ht:taken im x=x.args:=by unfold taken; rw [if_pos (by omega)]
  have hs:Sets x.op:=by unfold Sets; omega
  have hl3:x.args.length<=3:=by rw [hOp.2.1]; exact qm3 h.image.sigs.types _
  split
  ·rename_i hin
   have hi1:0<=x.into - 1/\x.into - 1 < f.held.length:=by omega
   have hv:=hF.held _ (q18 (l:=f.held) hi1.1 hi1.2)
   have hv2:1000<=at' f.held (x.into - 1):=by omega
   -- the kept cell
   have hh1:0 < holds s.frames (ix (at' f.held (x.into - 1))):=by
    rw [hf,q1e,q2j]
    have:=qai fs (ix (at' f.held (x.into - 1)))
    have:=q8x (l:=f.held) (a:=ix (at' f.held (x.into - 1))) (by rw [ptr_ix hv2]; exact q18 hi1.1 hi1.2)
    omega
   have hkp:Kept s.heap (ix (at' f.held (x.into - 1))):=Classical.byContradiction fun hn=>by have:=h.unkept _ hn; omega
   have hone:=h.kept _ hkp
   obtain ⟨d,hd,hdn⟩:=hkp
   have hfz:∀ b,occ d.fields b=0:=fun b=>q56 fun hw=>by
    have:=((HE.cell d (q05 hd)).dead (by omega)).2.1 _ hw; omega
   have k1:=HE.make (t:=x.num) (fs:=words f x.args) (e':=owns (fs ++ [Frame.put { f with own:=own,pc:=f.pc+1,held:=setI f.held (x.into - 1) 0 } x.dst (at' f.held (x.into - 1)) 1])) (a:=ix (at' f.held (x.into - 1))) (h':=s.heap.set (ix (at' f.held (x.into - 1))) ⟨1,x.num,words f x.args⟩)
    (Kept.unlive ⟨d,hd,hdn⟩) (q1d hd) (fun b hb=>q2b hb) (fun b=>by rw [qdo _ hd,hfz]; simp only []; omega) (hwordsW ht) (by simpa [words] using hl3) (by omega) (fun b=>by rw [ht]; have:=hEn b; simp only [words]; omega) (fun b=>by
     rw [hputOwns _ _ _ _ hs,ht]
     simp only [words]
     have:(if at' f.held (x.into - 1)=1000+(b:Int) then (1:Int) else 0)=if b=ix (at' f.held (x.into - 1)) then 1 else 0:=by
      by_cases hb:b=ix (at' f.held (x.into - 1))
      ·rw [if_pos hb,if_pos (by rw [hb,ptr_ix hv2])]
      ·rw [if_neg hb,if_neg (fun e2=>hb (by rw [e2,ix_ptr]))]
     rw [this]; omega)
   have hheldocc:∀ b,occ (setI f.held (x.into - 1) 0) b=occ f.held b - (if b=ix (at' f.held (x.into - 1)) then 1 else 0):=by
    intro b
    have hgen:∀ (l:List Int) (k:Nat) (w:Int),l[k]?=some w->occ (l.set k 0) b=occ l b - (if w=1000+(b:Int) then 1 else 0):=by
     intro l
     induction l with
     | nil=>intro k w hk; simp at hk
     | cons y l ih =>
      intro k w hk
      cases k with
      | zero=>simp at hk; subst hk; simp only [List.set_cons_zero,occ]; rw [if_neg (by omega)]; omega
      | succ k=>have:=ih k w (by simpa using hk); simp only [List.set_cons_succ,occ,this]; omega
    rw [setI,hgen _ _ _ (at_get hi1.1 hi1.2)]
    by_cases hb:b=ix (at' f.held (x.into - 1))
    ·rw [if_pos hb,if_pos (by rw [hb,ptr_ix hv2])]
    ·rw [if_neg hb,if_neg (fun e2=>hb (by rw [e2,ix_ptr]))]
   have hhold:∀ b,holds (fs ++ [Frame.put { f with own:=own,pc:=f.pc+1,held:=setI f.held (x.into - 1) 0 } x.dst (at' f.held (x.into - 1)) 1]) b=holds s.frames b - (if b=ix (at' f.held (x.into - 1)) then 1 else 0):=fun b=>by
    rw [hf,q1e,q1e,q2j,q2j]
    simp only [Frame.put]
    rw [hheldocc]; omega
   have hG':FrameOk im { f with own:=own,pc:=f.pc+1,held:=setI f.held (x.into - 1) 0 }:=by
    have h1:=hG (by omega) (by omega)
    exact ⟨h1.proc,h1.pc,h1.lr,h1.lo,by simp only [q2y]; exact h1.lh,h1.reg,h1.own,fun w hw=>by rcases q5k hw with hw | hw; exact Or.inl hw; exact h1.held w hw⟩
   refine h.top hr hf (hd:=rfl) (hG'.put hdst.1 (Or.inr hv2) (by omega) (fun _=>hv2)) k1 ?_ (fun a ha=>?_) (fun a ha=>?_) h.out (calls:=s.calls) ⟨Int.le_refl _,h.calls.2⟩
   ·intro c hc
    rw [List.length_set] at hc
    by_cases hb:s.heap.length - 1=ix (at' f.held (x.into - 1))
    ·rw [hb,q1d hd] at hc; simp at hc; subst hc; simp
    ·rw [q2b hb] at hc; exact h.trimmed c hc
   ·rw [hhold]
    by_cases hb:a=ix (at' f.held (x.into - 1))
    ·subst hb; rw [Kept.self hd] at ha; simp at ha
    ·rw [if_neg hb]; rw [Kept.ne hb] at ha; have:=h.kept a ha; omega
   ·rw [hhold]
    by_cases hb:a=ix (at' f.held (x.into - 1))
    ·subst hb; rw [if_pos rfl]; omega
    ·rw [if_neg hb]; rw [Kept.ne hb] at ha; have:=h.unkept a ha; omega
  ·exact alloc _ ht (by omega) (by omega) hs hl3 (by omega)
 rw [if_neg e6]
 by_cases e10:x.op=10
 ·rw [if_pos e10]
  rw [if_neg (by omega),if_neg (by omega),if_neg e6,if_neg (by omega),if_pos e10] at hOp
  obtain ⟨⟨q,hq0,hq1,hq2⟩,_⟩:=hOp
  have h3:=(h.image.sigs.each q (q05 hq1)).1
  have:=q04 hq1
  exact alloc _ (by unfold taken; rw [if_pos (by omega)]) (by omega) (by omega) (by unfold Sets; omega) (by omega) (by unfold q0j; omega)
 rw [if_neg e10]
 by_cases e14:x.op=14
 ·rw [if_pos e14]
  rw [if_neg (by omega),if_pos (by omega)] at hOp
  have ha:=arg0 (by omega)
  have ht:taken im x=[]:=by simp [taken,e14]
  obtain ⟨hl,hmx⟩:=hm.dup e14
  obtain ⟨hk,hu⟩:=h.holdsSame hf (g:={ f with own:=setI own (at' x.args 0) (at' own (at' x.args 0)+1),pc:=f.pc+1 }) rfl (fun b=>Kept.bump hl b)
  have h1:=hG (by omega) (by omega)
  refine h.top hr hf (hd:=rfl) (g:={ f with own:=setI own (at' x.args 0) (at' own (at' x.args 0)+1),pc:=f.pc+1 }) ⟨h1.proc,h1.pc,h1.lr,by simp only [q2y]; exact h1.lo,h1.lh,h1.reg,fun k o w ho hw=>?_,h1.held⟩ (HE.bump hl hmx fun b=>?_) ?_ hk hu h.out (calls:=s.calls) ⟨Int.le_refl _,h.calls.2⟩
  ·simp only [] at ho hw
   rw [qdn] at ho
   split at ho
   ·rename_i hkk
    simp at ho
    have e:at' f.regs (at' x.args 0)=w:=by rw [at',List.getD_eq_getElem?_getD,← hkk.1,hw]; rfl
    have:=hm.nn _ (q18 (l:=own) ha.1 (by omega))
    have:=hl.1
    exact ⟨by omega,fun _=>by omega⟩
   ·exact h1.own k o w ho hw
  ·rw [q1u,q3t,ht]
   simp only []
   rw [qim ha.1 ha.2 (by omega)]
   have hwx:=ptr_ix hl.1
   simp only [List.map_nil,occ]
   by_cases hb:b=ix (at' f.regs (at' x.args 0))
   ·rw [if_pos hb,if_pos (by rw [hb,hwx])]; omega
   ·rw [if_neg hb,if_neg (fun e2=>hb (by rw [e2,ix_ptr]))]; omega
  ·obtain ⟨hc,hp2⟩:=q0i hl
   intro c hcc
   unfold bump at hcc
   rw [List.length_set] at hcc
   by_cases hb:s.heap.length - 1=ix (at' f.regs (at' x.args 0))
   ·rw [hb,q1d hc] at hcc; simp at hcc; subst hcc; simp only []; omega
   ·rw [q2b hb] at hcc; exact h.trimmed c hcc
 rw [if_neg e14]
 have args1:x.args.length=1->x.args=[at' x.args 0]:=fun h1=>by
  cases hx:x.args with
  | nil=>rw [hx] at h1; simp at h1
  | cons y l=>cases l with
   | nil=>rfl
   | cons z l=>rw [hx] at h1; simp at h1
 by_cases e15:x.op=15
 ·rw [if_pos e15]
  rw [if_neg (by omega),if_pos (by omega)] at hOp
  have ht:taken im x=[at' x.args 0]:=by unfold taken; rw [if_pos (by omega)]; exact args1 (by omega)
  rw [ht] at HE
  have k1:=HInv.dropS _ s.heap [at' f.regs (at' x.args 0)] (fun b=>owns fs b+q0m f.regs own b) (Nat.le_refl _) (HE.congr fun b=>rfl) hEn
  obtain ⟨hk,hu⟩:=h.holdsSame hf (g:={ f with own:=own,pc:=f.pc+1 }) rfl (fun b=>(Kept.trim (h:=dropS s.heap [at' f.regs (at' x.args 0)]) b).trans (Kept.dropS _ _ _ (Nat.le_refl _) b))
  exact h.top hr hf (hd:=rfl) (hG (by omega) (by omega)) (k1.trim.congr fun b=>by rw [q1u,q3t]) (qjr _) hk hu h.out (calls:=s.calls) ⟨Int.le_refl _,h.calls.2⟩
 rw [if_neg e15]
 by_cases e16:x.op=16 \/ x.op=17
 ·rw [if_pos e16]
  rw [if_neg (by omega),if_neg (by omega),if_neg e6,if_neg (by omega),if_neg e10,if_pos e16] at hOp
  have ha:=arg0 (by omega)
  have ht:taken im x=[at' x.args 0]:=by
   unfold taken; rw [if_neg (by omega),if_pos e16]
   cases hx:x.args with
   | nil=>rw [hx] at hOp; simp at hOp
   | cons y l=>rfl
  obtain ⟨hl,hptr,hfit,hheld⟩:=hm.open' e16
  obtain ⟨hc,hp2⟩:=q0i hl
  have hrest:∀ r ∈ x.args.drop 1,0<=r/\r < own.length/\1000<=at' f.regs r:=fun r hr1=>by
   have h1:=hArg r (List.mem_of_mem_drop hr1)
   have h2:at' f.regs r ∈ ptrs (q01 s.heap (at' f.regs (at' x.args 0))).fields:=by rw [hptr]; exact List.mem_map.2 ⟨r,hr1,rfl⟩
   exact ⟨h1.1,by omega,(q48.1 h2).2⟩
  have h1:=hG (by omega) (by omega)
  have hGb:FrameOk im { f with own:=q0x own (x.args.drop 1),pc:=f.pc+1 }:=⟨h1.proc,h1.pc,h1.lr,by simp only [q4i]; exact h1.lo,h1.lh,h1.reg,qnv (regs:=f.regs) _ own hrest h1.own,h1.held⟩
  have hob:∀ b,q0m f.regs (q0x own (x.args.drop 1)) b=q0m f.regs own b+occ (q01 s.heap (at' f.regs (at' x.args 0))).fields b:=fun b=>by
   rw [qjl (regs:=f.regs) _ _ (fun r hr1=>by have:=hrest r hr1; omega) (by omega),← qaa (q01 s.heap _).fields,hptr]; rfl
  have hea:0 < owns fs (ix (at' f.regs (at' x.args 0)))+q0m f.regs own (ix (at' f.regs (at' x.args 0)))+occ ((taken im x).map (at' f.regs)) (ix (at' f.regs (at' x.args 0))):=by
   rw [ht]
   have:=hEn (ix (at' f.regs (at' x.args 0)))
   simp only [List.map_cons,List.map_nil,q2s hl.1,if_pos,occ]
   omega
  have hE':∀ b,owns fs b+q0m f.regs (q0x own (x.args.drop 1)) b=(owns fs b+q0m f.regs own b+occ ((taken im x).map (at' f.regs)) b) - (if b=ix (at' f.regs (at' x.args 0)) then 1 else 0)+occ (q01 s.heap (at' f.regs (at' x.args 0))).fields b:=fun b=>by
   rw [hob,ht]
   simp only [List.map_cons,List.map_nil,q2s hl.1,occ]; omega
  split
  ·rename_i hone
   have hh0:=hheld hone.2
   have k1:=HE.gone hc hone.1 hea (c':=⟨-1,0,q0p (q01 s.heap (at' f.regs (at' x.args 0))).fields.length⟩) (by simp) (by simp) rfl (fun w hw=>q8y hw) (by simp only [q31]; exact (HE.cell _ (q05 hc)).fl) (fun h2=>by simp at h2) (e':=owns (fs ++ [{ f with own:=q0x own (x.args.drop 1),pc:=f.pc+1,held:=setI f.held (at' x.args 0) (at' f.regs (at' x.args 0)) }])) (fun b=>by rw [q1u,q3t]; exact hE' b)
   have hgen:∀ (b:Nat) (w:Int) (l:List Int) (k:Nat),l[k]?=some 0->occ (l.set k w) b=occ l b+(if w=1000+(b:Int) then 1 else 0):=by
    intro b w l
    induction l with
    | nil=>intro k hk; simp at hk
    | cons y l ih =>
     intro k hk
     cases k with
     | zero=>simp at hk; subst hk; simp only [List.set_cons_zero,occ]; split <;> simp_all <;> omega
     | succ k=>have:=ih k (by simpa using hk); simp only [List.set_cons_succ,occ,this]; omega
   have hah:at' x.args 0 < f.held.length:=by omega
   have hhold:∀ b,holds (fs ++ [{ f with own:=q0x own (x.args.drop 1),pc:=f.pc+1,held:=setI f.held (at' x.args 0) (at' f.regs (at' x.args 0)) }]) b=holds s.frames b+(if b=ix (at' f.regs (at' x.args 0)) then 1 else 0):=fun b=>by
    rw [hf,q1e,q1e,q2j,q2j]
    have hgg:=at_get (l:=f.held) ha.1 hah
    rw [hh0] at hgg
    simp only [setI]
    rw [hgen b _ _ _ hgg]
    by_cases hb:b=ix (at' f.regs (at' x.args 0))
    ·rw [if_pos hb,if_pos (by rw [hb,ptr_ix hl.1])]; omega
    ·rw [if_neg hb,if_neg (fun e2=>hb (by rw [e2,ix_ptr]))]; omega
   have hnk:¬ Kept s.heap (ix (at' f.regs (at' x.args 0))):=fun hk=>hk.unlive hl.2
   refine h.top hr hf (hd:=rfl) (g:={ f with own:=q0x own (x.args.drop 1),pc:=f.pc+1,held:=setI f.held (at' x.args 0) (at' f.regs (at' x.args 0)) }) ⟨hGb.proc,hGb.pc,hGb.lr,hGb.lo,by simp only [q2y]; exact hGb.lh,hGb.reg,hGb.own,fun w hw=>?_⟩ k1 ?_ (fun a ha2=>?_) (fun a ha2=>?_) h.out (calls:=s.calls) ⟨Int.le_refl _,h.calls.2⟩
   ·rcases q5k hw with hw | hw
    ·rw [hw]; exact Or.inr hl.1
    ·exact hF.held w hw
   ·intro c hcc
    rw [List.length_set] at hcc
    by_cases hb:s.heap.length - 1=ix (at' f.regs (at' x.args 0))
    ·rw [hb,q1d hc] at hcc; simp at hcc; subst hcc; simp
    ·rw [q2b hb] at hcc; exact h.trimmed c hcc
   ·rw [hhold]
    by_cases hb:a=ix (at' f.regs (at' x.args 0))
    ·rw [if_pos hb,hb,h.unkept _ hnk]; rfl
    ·rw [if_neg hb]; rw [Kept.ne hb] at ha2; have:=h.kept a ha2; omega
   ·rw [hhold]
    by_cases hb:a=ix (at' f.regs (at' x.args 0))
    ·subst hb; rw [Kept.self hc] at ha2; simp at ha2
    ·rw [if_neg hb]; rw [Kept.ne hb] at ha2; have:=h.unkept a ha2; omega
  ·obtain ⟨k1,k2,k3⟩:=HE.apart hl hea hfit (e':=owns (fs ++ [{ f with own:=q0x own (x.args.drop 1),pc:=f.pc+1 }])) (fun b=>by rw [q1u,q3t]; exact hE' b) h.trimmed
   obtain ⟨hk,hu⟩:=h.holdsSame hf (g:={ f with own:=q0x own (x.args.drop 1),pc:=f.pc+1 }) rfl k2
   exact h.top hr hf (hd:=rfl) hGb k1 k3 hk hu h.out (calls:=s.calls) ⟨Int.le_refl _,h.calls.2⟩
 rw [if_neg e16]
 by_cases e18:x.op=18
 ·rw [if_pos e18]
  rw [if_neg (by omega),if_pos (by omega)] at hOp
  have ha:=arg0 (by omega)
  have ht:taken im x=[at' x.args 0]:=by unfold taken; rw [if_pos (by omega)]; exact args1 (by omega)
  have hs:Sets x.op:=by unfold Sets; omega
  obtain ⟨hk,hu⟩:=h.holdsSame hf (g:=Frame.put { f with own:=own,pc:=f.pc+1 } x.dst (at' f.regs (at' x.args 0)) (q1g (at' f.regs (at' x.args 0)))) rfl (fun b=>Iff.rfl)
  refine h.top hr hf (hd:=rfl) ((hG (by omega) (by omega)).put hdst.1 (hreg _ ha.1 ha.2) (qiw _) qgb) (HE.congr fun b=>?_) h.trimmed hk hu h.out (calls:=s.calls) ⟨Int.le_refl _,h.calls.2⟩
  rw [hputOwns _ _ _ _ hs,ht,qci]; rfl
 rw [if_neg e18]
 by_cases e19:x.op=19
 ·rw [if_pos e19]
  rw [if_neg (by omega),if_neg (by omega),if_neg e6,if_neg (by omega),if_neg e10,if_neg e16,if_pos e19] at hOp
  obtain ⟨hl,hnum⟩:=hm.load e19
  obtain ⟨hc,hp2⟩:=q0i hl
  refine simple _ _ (by unfold Sets; omega) (by omega) (by omega) (by simp [taken,e19]) ?_ h.out
  rcases ((HE.cell _ (q05 hc)).alive hp2).1 _ (q18 hOp.2.1 hnum) with h2 | h2
  ·exact Or.inl h2
  ·exact Or.inr h2.1
 rw [if_neg e19]
 by_cases e20:x.op=20
 ·rw [if_pos e20]
  rw [if_neg (by omega),if_neg (by omega),if_neg e6,if_neg (by omega),if_neg e10,if_neg e16,if_neg e19,if_pos e20] at hOp
  have:=hnext (by omega) (by omega)
  exact goto _ (by split <;> omega) (by split <;> omega) (by simp [taken,e20])
 rw [if_neg e20]
 by_cases e21:x.op=21
 ·rw [if_pos e21]
  rw [if_neg (by omega),if_neg (by omega),if_neg e6,if_neg (by omega),if_neg e10,if_neg e16,if_neg e19,if_neg e20,if_neg (by omega),if_pos e21] at hOp
  obtain ⟨hl,htag⟩:=hm.switch e21
  have hix:idxOf (q1h im.decls x.num) (q01 s.heap (at' f.regs (at' x.args 0))).tag < (q1h im.decls x.num).length:=List.findIdx_lt_length_of_exists ⟨_,htag,by simp⟩
  obtain ⟨hj1,hj2⟩:=hOp.2.2
  have:=hj2 _ (q18 (l:=x.jumps) (i:=(idxOf (q1h im.decls x.num) (q01 s.heap (at' f.regs (at' x.args 0))).tag:Nat)) (by omega) (by omega))
  exact goto _ (by omega) (by omega) (by simp [taken,e21])
 rw [if_neg e21]
 by_cases e22:x.op=22
 ·rw [if_pos e22]
  rw [if_neg (by omega),if_neg (by omega),if_neg e6,if_neg (by omega),if_neg e10,if_neg e16,if_neg e19,if_neg e20,if_pos e22] at hOp
  exact goto _ (by omega) (by omega) (by simp [taken,e22])
 rw [if_neg e22]
 have hwreg:∀ w ∈ words f x.args,isInt w \/ 1000<=w:=fun w hw=>by
  obtain ⟨r,hr1,rfl⟩:=List.mem_map.1 hw
  exact hreg r (hArg r hr1).1 (hArg r hr1).2
 have hless:isCall x.op->s.calls < s.most:=fun hc=>by
  have:=h.calls
  have:s.calls ≠ s.most:=fun e=>hcall ⟨hc,e⟩
  omega
 -- the state with the frame's registers consumed
 have hmid:∀ (hp:List Cell),s.calls < s.most->x.op ≠ 23->x.op ≠ 24->∀ (g:Frame),FrameOk im g->Sets x.op->g.dst=x.dst->HInv hp (owns (fs ++ [{ f with own:=own,pc:=f.pc+1 },g]))->Trimmed hp->(∀ b,Kept hp b ↔ Kept s.heap b)->(∀ b,holds [g] b=0) ->
   StateOk im { s with calls:=s.calls+1,heap:=hp,frames:=fs ++ [{ f with own:=own,pc:=f.pc+1 },g] }:=fun hp hcm h1 h2 g hg hs hgd hH hT hK hhz=>by
  have hc0:=h.calls
  have hdep:=h.depth
  rw [hf] at hdep
  have ee:fs ++ [{ f with own:=own,pc:=f.pc+1 },g]=(fs ++ [{ f with own:=own,pc:=f.pc+1 }]) ++ [g]:=by simp
  have hhold:∀ b,holds (fs ++ [{ f with own:=own,pc:=f.pc+1 },g]) b=holds s.frames b:=fun b=>by
   rw [ee,q1e,hhz,hf,q1e,q1e,q2j,q2j]; simp
  refine ⟨h.image,h.status,⟨fun e=>by simp at e; omega,fun e=>by simp at e⟩,h.value,h.value0,h.most,⟨by simp only []; omega,by simp only []; omega⟩,by simp at hdep ⊢; omega,h.out,hH,hT,fun q hq=>?_,fun q hq=>?_,fun k p1 q hp1 hq=>?_,fun a ha=>?_,fun a ha=>?_⟩
  ·rcases List.mem_append.1 hq with hq | hq
   ·exact hfsok q hq
   ·simp at hq
    rcases hq with rfl | rfl
    ·exact hG h1 h2
    ·exact hg
  ·have hfirst:=h.first
   rw [hf] at hfirst
   cases fs with
   | nil=>simp at hq; subst hq; exact hfirst f (by simp)
   | cons y ys=>simp at hq; subst hq; exact hfirst y (by simp)
  ·have hch:=h.chain k
   rw [hf] at hch
   simp only [] at hp1 hq
   rw [ee] at hp1 hq
   have hkl:=q04 hq
   simp at hkl
   rw [List.getElem?_append_left (by simp; omega)] at hp1
   rcases Nat.lt_or_ge (k+1) (fs.length+1) with h3 | h3
   ·rw [List.getElem?_append_left (by simp; omega)] at hq
    rw [List.getElem?_append_left (by omega)] at hp1
    rcases Nat.lt_or_ge (k+1) fs.length with h4 | h4
    ·rw [List.getElem?_append_left h4] at hq
     exact hch p1 q (by rw [List.getElem?_append_left (by omega)]; exact hp1) (by rw [List.getElem?_append_left h4]; exact hq)
    ·rw [List.getElem?_append_right h4] at hq
     have e2:k+1 - fs.length=0:=by omega
     rw [e2] at hq; simp at hq; subst hq
     exact hch p1 f (by rw [List.getElem?_append_left (by omega)]; exact hp1) (by rw [List.getElem?_append_right h4,e2]; rfl)
   ·rw [List.getElem?_append_right (by simp; omega)] at hq
    have e2:k+1 - (fs ++ [{ f with own:=own,pc:=f.pc+1 }]).length=0:=by simp; omega
    rw [e2] at hq; simp at hq; subst hq
    rw [List.getElem?_append_right (by omega)] at hp1
    have e3:k - fs.length=0:=by omega
    rw [e3] at hp1; simp at hp1; subst hp1
    rw [hgd]
    exact ⟨hdst.1,by simp only []; omega,hd0 hs⟩
  ·rw [hhold]; exact h.kept a ((hK a).1 ha)
  ·rw [hhold]; exact h.unkept a fun h3=>ha ((hK a).2 h3)
 by_cases e9:x.op=9
 ·rw [if_pos e9]
  rw [if_neg (by omega),if_neg (by omega),if_neg e6,if_pos (by omega)] at hOp
  obtain ⟨q,hq0,hq1,hq2⟩:=hOp
  have ht:taken im x=unlent im x 0 x.args:=by unfold taken; rw [if_neg (by omega),if_neg (by omega),if_pos (by omega)]
  refine hmid s.heap (hless (Or.inl e9)) (by omega) (by omega) (q0r im x.num x.dst (words f x.args)) (qep h.image hq0 hq1 (by simp [words,hq2]) hwreg) (by unfold Sets; omega) rfl (HE.congr fun b=>?_) h.trimmed (fun _=>Iff.rfl) (qas _ _ _ _)
  rw [q1u,ht]
  simp only [owns]
  rw [qc8,qk3]; omega
 rw [if_neg e9]
 by_cases e24:x.op=24
 ·rw [if_pos e24]
  rw [if_neg (by omega),if_neg (by omega),if_neg e6,if_pos (by omega)] at hOp
  obtain ⟨q,hq0,hq1,hq2⟩:=hOp
  have ht:taken im x=unlent im x 0 x.args:=by unfold taken; rw [if_neg (by omega),if_neg (by omega),if_pos (by omega)]
  obtain ⟨hz1,hz2⟩:=hm.zero (Or.inl e24)
  have hhold:∀ b,holds (fs ++ [q0r im x.num f.dst (words f x.args)]) b=holds s.frames b:=fun b=>by
   rw [hf,q1e,q1e,qas,q2j,q56 (fun hw=>by have:=hz2 _ hw; omega)]
  have hls:=hless (Or.inr (Or.inr e24))
  refine h.top hr hf (hd:=rfl) (qep h.image hq0 hq1 (by simp [words,hq2]) hwreg) (HE.congr fun b=>?_) h.trimmed (fun a ha=>by rw [hhold]; exact h.kept a ha) (fun a ha=>by rw [hhold]; exact h.unkept a ha) h.out (calls:=s.calls+1) (by omega)
  rw [q1u,q3t,qc8,qk3,ht,q96 hz1]; omega
 rw [if_neg e24]
 by_cases e11:x.op=11
 ·rw [if_pos e11]
  rw [if_pos (by omega)] at hOp
  have ht:taken im x=x.args:=by unfold taken; rw [if_pos (by omega)]
  have hargs:x.args=[at' x.args 0,at' x.args 1]:=by
   cases hx:x.args with
   | nil=>rw [hx] at hOp; simp at hOp
   | cons y l=>cases l with
    | nil=>rw [hx] at hOp; simp at hOp
    | cons z l=>cases l with
     | nil=>rfl
     | cons _ _=>rw [hx] at hOp; simp at hOp
  have ha1:0<=at' x.args 1/\at' x.args 1 < f.regs.length:=hArg _ (q18 (by omega) (by omega))
  obtain ⟨hl,ht0,ht1,hpar,hlen,hfit⟩:=hm.apply e11
  obtain ⟨hc,hp2⟩:=q0i hl
  obtain ⟨q,hq⟩:=q00 (l:=im.procs) (k:=((q01 s.heap (at' f.regs (at' x.args 0))).tag - q0j im).toNat) (by omega)
  have hqe:q0y im ((q01 s.heap (at' f.regs (at' x.args 0))).tag - q0j im)=q:=by simp [q0y,hq]
  rw [hqe] at hpar hlen
  have hEt:∀ b,occ ((taken im x).map (at' f.regs)) b=(if b=ix (at' f.regs (at' x.args 0)) then 1 else 0)+occ [at' f.regs (at' x.args 1)] b:=fun b=>by
   rw [ht,hargs]
   simp only [List.map_cons,List.map_nil]
   rw [q2s]
   ·rfl
   ·exact hl.1
  obtain ⟨k1,k2,k3⟩:=HE.apart hl (by simp only [hEt,if_pos]; have:=hEn (ix (at' f.regs (at' x.args 0))); have:=occ_nn [at' f.regs (at' x.args 1)] (ix (at' f.regs (at' x.args 0))); omega) hfit
   (e':=owns (fs ++ [{ f with own:=own,pc:=f.pc+1 },q0r im ((q01 s.heap (at' f.regs (at' x.args 0))).tag - q0j im) x.dst ((q01 s.heap (at' f.regs (at' x.args 0))).fields ++ [at' f.regs (at' x.args 1)])])) (fun b=>by
    rw [q1u,hEt]
    simp only [owns]
    rw [qc8,hqe,List.length_eq_zero_iff.1 hlen,qmb,q4d]; omega) h.trimmed
  refine hmid _ (hless (Or.inr (Or.inl e11))) (by omega) (by omega) _ (qep h.image ht0 hq (by simp; omega) fun w hw=>?_) (by unfold Sets; omega) rfl k1 k3 k2 (qas _ _ _ _)
  rcases List.mem_append.1 hw with hw | hw
  ·rcases ((HE.cell _ (q05 hc)).alive hp2).1 w hw with h2 | h2
   ·exact Or.inl h2
   ·exact Or.inr h2.1
  ·simp at hw; subst hw; exact hreg _ ha1.1 ha1.2
 rw [if_neg e11]
 -- a return
 have e23:x.op=23:=by
  rw [if_neg (by omega)] at hOp
  by_cases e23:x.op=23
  ·exact e23
  ·rw [if_neg (by omega),if_neg e6,if_neg (by omega),if_neg e10,if_neg e16,if_neg e19,if_neg e20,if_neg e22,if_neg e21] at hOp
   exact hOp.elim
 rw [if_neg (by omega),if_pos (by omega)] at hOp
 have ha:=arg0 (by omega)
 have ht:taken im x=[at' x.args 0]:=by unfold taken; rw [if_pos (by omega)]; exact args1 (by omega)
 obtain ⟨hz1,hz2⟩:=hm.zero (Or.inr e23)
 have hholdf:∀ b,holds [f] b=0:=fun b=>by rw [q2j]; exact q56 (fun hw=>by have:=hz2 _ hw; omega)
 split
 ·rename_i hlast
  have hfs:fs=[]:=List.getLast?_eq_none_iff.1 hlast
  subst hfs
  have hret:=hm.ret e23
  have hint:=hlt1000 _ ha.1 ha.2 (by rcases hret with h1 | h1; (rw [hf] at h1; simp at h1); exact h1)
  have hc0:=h.calls
  refine ⟨h.image,⟨by simp,by simp⟩,by simp,hint,by simp,h.most,h.calls,by simp; omega,h.out,HE.congr fun b=>?_,h.trimmed,by simp,by simp,by simp,fun a ha2=>?_,fun a ha2=>?_⟩
  ·rw [ht,q96 hz1]
   simp only [owns,List.map_cons,List.map_nil]
   rw [q56 (by simp; have:=hint.2; omega)]; rfl
  ·have h1:=h.kept a ha2
   rw [hf] at h1
   have h2:=hholdf a
   simp only [List.nil_append] at h1
   omega
  ·simp [holds]
 ·rename_i pf hlast
  have hfs:fs=fs.dropLast ++ [pf]:=by
   have hne:fs ≠ []:=fun e=>by rw [e] at hlast; simp at hlast
   rw [List.getLast?_eq_some_getLast hne] at hlast
   simp at hlast
   rw [← hlast]; exact (List.dropLast_concat_getLast hne).symm
  generalize fs.dropLast=fs' at hfs
  subst hfs
  have hPF:FrameOk im pf:=hfsok pf (by simp)
  obtain ⟨hdd0,hdd1,hdd2⟩:=h.chain fs'.length pf f (by rw [hf]; simp) (by rw [hf]; simp)
  have hdr:f.dst < pf.regs.length:=by have:=hPF.lr; have:=hPF.lo; omega
  have hc0:=h.calls
  have hdep:=h.depth
  rw [hf] at hdep
  have hhold:∀ b,holds (fs' ++ [pf.put f.dst (at' f.regs (at' x.args 0)) (q1g (at' f.regs (at' x.args 0)))]) b=holds s.frames b:=fun b=>by
   rw [hf,q1e,q1e,hholdf,q1e,q2j,q2j]; simp [Frame.put]
  refine ⟨h.image,h.status,⟨fun e=>by simp at e; omega,fun e=>by simp at e⟩,h.value,h.value0,h.most,h.calls,by simp at hdep ⊢; omega,h.out,HE.congr fun b=>?_,h.trimmed,fun q hq=>?_,fun q hq=>?_,fun k p1 q hp1 hq=>?_,fun a ha2=>by rw [hhold]; exact h.kept a ha2,fun a ha2=>by rw [hhold]; exact h.unkept a ha2⟩
  ·rw [q1u,q3t,q1u,q3t,ht,q96 hz1]
   simp only [Frame.put,List.map_cons,List.map_nil]
   rw [qq9 hdd0 hdr hdd1 hdd2,qci]; omega
  ·rcases List.mem_append.1 hq with hq | hq
   ·exact hfsok q (List.mem_append_left _ hq)
   ·simp at hq; subst hq
    exact hPF.put hdd0 (hreg _ ha.1 ha.2) (qiw _) qgb
  ·have hfirst:=h.first
   rw [hf] at hfirst
   cases fs' with
   | nil=>simp at hq; subst hq; exact hfirst pf (by simp)
   | cons y ys=>simp at hq; subst hq; exact hfirst y (by simp)
  ·have hch:=h.chain k
   rw [hf] at hch
   simp only [] at hp1 hq
   have hkl:=q04 hq
   simp at hkl
   rw [List.getElem?_append_left (by omega)] at hp1
   have e1:(fs' ++ [pf] ++ [f])[k]?=some p1:=by rw [List.getElem?_append_left (by simp; omega),List.getElem?_append_left (by omega)]; exact hp1
   rcases Nat.lt_or_ge (k+1) fs'.length with h3 | h3
   ·rw [List.getElem?_append_left h3] at hq
    exact hch p1 q e1 (by rw [List.getElem?_append_left (by simp; omega),List.getElem?_append_left h3]; exact hq)
   ·rw [List.getElem?_append_right h3] at hq
    have e2:k+1 - fs'.length=0:=by omega
    rw [e2] at hq; simp at hq; subst hq
    exact hch p1 pf e1 (by rw [List.getElem?_append_left (by simp; omega),List.getElem?_append_right h3,e2]; rfl)
theorem qsf {im:Image} {s:St} (h:StateOk im s):StateOk im (step im s):=by
 unfold step
 by_cases hr:s.status=3
 ·rw [if_neg (by simpa using hr)]
  obtain ⟨fs,f,hf⟩:=h.split hr
  have e1:s.frames.getLast?=some f:=by rw [hf]; simp
  have e2:s.frames.dropLast=fs:=by rw [hf]; simp
  rw [e1,e2]
  simp only []
  have other:∀ n,1<=n->n<=2->StateOk im { s with status:=n }:=fun n h1 h2 =>
   ⟨h.image,⟨by simp only []; omega,by simp only []; omega⟩,⟨fun e=>by simp only [] at e; omega,fun e=>by simp only [] at e; rw [hf] at e; simp at e⟩,h.value,fun hv=>by have:=h.value0 hv; omega,h.most,h.calls,h.depth,h.out,h.heap,h.trimmed,h.frames,h.first,h.chain,h.kept,h.unkept⟩
  split
  ·exact other 1 (by omega) (by omega)
  ·rename_i hcall
   split
   ·rename_i hm; exact qsy h hr hf hm hcall
   ·exact other 2 (by omega) (by omega)
 ·rw [if_pos (by simpa using hr)]; exact h
end
section
def rem (im:Image):List Frame->Int
 | []=>0
 | f :: fs=>((q0y im f.proc).code.length - f.pc)+rem im fs
noncomputable def steps (im:Image):Nat->St->St
 | 0,s=>s
 | n+1,s=>steps im n (step im s)
theorem qge (im:Image):∀ (n:Nat) (s:St),steps im (n+1) s=step im (steps im n s)
 | 0,s=>rfl
 | n+1,s=>by rw [steps,qge im n,steps]
theorem qdk {im:Image}:∀ (n:Nat) {s:St},StateOk im s->StateOk im (steps im n s)
 | 0,s,h=>h
 | n+1,s,h=>qdk n (qsf h)
theorem q9n {im:Image} {s:St} (h:s.status ≠ 3):step im s=s:=by unfold step; rw [if_pos h]
theorem qbz {im:Image}:∀ (n:Nat) {s:St},s.status ≠ 3->steps im n s=s
 | 0,s,_=>rfl
 | n+1,s,h=>by rw [steps,q9n h,qbz n h]
end
section
theorem SlOf.cut0 {α:Type} {m:Mem} {sz:Nat} {R:List Ce->α->Prop} {s:Sl} {l:List α} (h:SlOf m sz R s l) {k:Nat} (hk:k<=l.length):SlOf m sz R (s.cut 0 k sz) (l.take k):=by
 have hl:=h.len
 have hc:=h.cap
 have hm:=h.lim
 cases s with
 | nil =>
  simp at hl
  have:k=0:=by omega
  subst this
  exact ⟨by simp [Sl.cut],by simp [Sl.cut],by simp [Sl.cut],by simp⟩
 | emp b o sp =>
  simp at hl
  have:k=0:=by omega
  subst this
  exact ⟨by simp [Sl.cut],by simp [Sl.cut],by simp [Sl.cut],by simp⟩
 | mk b o n c =>
  simp only [Sl.len_mk,Sl.cap_mk] at hl hc hm
  refine ⟨by simp [Sl.cut]; omega,by simp [Sl.cut]; omega,by simp [Sl.cut]; omega,fun j x hj=>?_⟩
  have hj':j < k:=by have:=q04 hj; simp at this; omega
  rw [List.getElem?_take,if_pos hj'] at hj
  have:=h.row j x hj
  simpa [Sl.cut] using this
theorem q6y (decls:Sl) (t:Int) (m:Mem):q0o Tryz.prog q4v [Sl.v decls,vi t] m (IsTy decls.len t):=by
 apply qle
 refine ⟨fun h=>retB ?_ (Ext.refl _),fun h=>retF ?_ (Ext.refl _)⟩ <;> simp at h
 ·simp [IsTy,h]
 ·unfold IsTy; omega
theorem qd6 {m:Mem} {list:Sl} {l:List Int} (hl:q03 m list l) (decls:Sl):q0o Tryz.prog q6a [Sl.v decls,Sl.v list] m (AllTy decls.len l):=by
 apply qi8
 have hll:=hl.len
 refine forI (n:=l.length) (hll ▸ hl.lim) (fun k m'=>Ext m m'/\∀ t ∈ l.take k,IsTy decls.len t) ⟨Ext.refl _,by simp⟩ ?_
 rintro k m1 I μ hk ⟨hx,hn⟩ next
 refine ⟨fun h=>?_,fun h=>?_⟩
 ·simp only [decide_eq_true_eq] at h
  obtain ⟨x,hx1⟩:=q00 (l:=l) (k:=k) (by omega)
  refine ⟨by omega,by omega,x,by simpa using hx.gcell (hl.at' hx1),?_⟩
  refine (q6y _ _ _).then fun b m2 hb h2=>⟨_,rfl,fun h=>?_,fun h=>?_⟩
  ·exact retF (fun hp=>nb hb h (hp x (q05 hx1))) (hx.trans h2)
  ·exact next (by omega) _ ⟨hx.trans h2,q0f hx1 hn (yb hb h)⟩
 ·simp only [decide_eq_false_iff_not] at h
  exact retT (q0w (by omega) hn) hx
theorem q9m (op:Int) (m:Mem) (h7:op ≠ 7/\op ≠ 8):q0o Tryz.prog q4p [vi op] m (Sets op):=by
 apply qe0
 refine ⟨fun h=>⟨fun h2=>retT ?_ (Ext.refl _),fun h2=>⟨fun h3=>retT ?_ (Ext.refl _),fun h3=>retB ?_ (Ext.refl _)⟩⟩,fun h=>⟨fun h3=>retT ?_ (Ext.refl _),fun h3=>retB ?_ (Ext.refl _)⟩⟩ <;> simp [Sets] at*<;> omega
theorem q8b {m:Mem} {decls:Sl} {ds:List Decl} (hd:q0q m decls ds) (hlen:ds.length<=4) (hb:∀ d ∈ ds,d.cons.length<=3):Gets Tryz.prog q3j [Sl.v decls] m (vi (q17 ds).length):=by
 apply qi6
 simp -zeta only [q0a,q09,rI,rS,rB,cI,cB,cS,dI,dB,dS,gk,rg]
 have hdl:=hd.len
 refine forSI (n:=ds.length) (by omega) (fun j n m'=>Ext m m'/\n=(fc ds j:Nat)/\fc ds j<=3*j) ⟨Ext.refl _,by cases ds <;> rfl,by cases ds <;> simp [fc]⟩ ?_
 rintro j n m1 I μ hj ⟨hx,rfl,h3⟩ next
 refine ⟨fun h=>?_,fun h=>?_⟩
 ·simp only [decide_eq_true_eq] at h
  obtain ⟨d,hd1⟩:=q00 (l:=ds) (k:=j) (by omega)
  obtain ⟨f,hf,g0,g1,g2⟩:=(q0q.ext hx hd).at' hd1
  refine ⟨by omega,by omega,_,g0,_,g1,f,g2,?_⟩
  intro m2 m3
  have h2:=hb d (q05 hd1)
  refine next (by omega) _ _ ⟨(hx.pushed _).scells hx.size _ _,?_,?_⟩
  ·rw [q07 (by omega) (by have:=hf.len; omega),q6u hd1,hf.len]; rfl
  ·rw [q6u hd1]; omega
 ·simp only [decide_eq_false_iff_not] at h
  refine ⟨?_,hx⟩
  rw [fc_all ds j (by omega)]
theorem qpa {ds:List Decl} (h:TypesOk ds):∀ d ∈ ds,d.cons.length<=3:=fun d hd=>by
 obtain ⟨k,hk⟩:=List.mem_iff_getElem?.1 hd
 exact q5s h hk
theorem qsh:∀ (ds:List Decl) (k:Nat),(q17 (ds.take k)).length=fc ds k
 | [],k=>by simp [q17,fc_nil]
 | d :: ds,0=>by simp [q17,fc]
 | d :: ds,k+1=>by
  have:=qsh ds k
  simp only [List.take_succ_cons,q17,List.flatMap_cons,List.length_append,fc] at this ⊢
  omega
theorem qao {m:Mem} {decls:Sl} {ds:List Decl} (hd:q0q m decls ds) (ht:TypesOk ds) (t:Int):q08 Tryz.prog q5y [Sl.v decls,vi t] m fun v m'=>∃ s,v=Sl.v s/\q03 m' s (q1h ds t)/\Ext m m':=by
 apply qkx
 simp -zeta only [q0a,q09,rI,rS,rB,cI,cB,cS,dI,dB,dS,gk,rg]
 have hdl:=hd.len
 have hdc:=hd.cap
 have hn0:∀ (h:¬ (1<=t/\t<=ds.length)),q03 m .nil (q1h ds t):=fun h=>by
  unfold q1h; rw [if_neg h]
  exact ⟨rfl,Nat.le_refl _,by simp,by simp⟩
 have:=ht.len
 refine ⟨fun h=>?_,fun h=>?_⟩
 ·simp only [decide_eq_true_eq] at h
  exact ⟨_,rfl,hn0 (by omega),Ext.refl _⟩
 simp only [decide_eq_false_iff_not] at h
 refine ⟨fun h1=>?_,fun h1=>?_⟩
 ·simp only [decide_eq_true_eq] at h1
  exact ⟨_,rfl,hn0 (by omega),Ext.refl _⟩
 simp only [decide_eq_false_iff_not] at h1
 have e1:w64 (t - 1)=((t.toNat - 1:Nat):Int):=by rw [q07 (by omega) (by omega)]; omega
 rw [e1]
 obtain ⟨d,hd1⟩:=q00 (l:=ds) (k:=t.toNat - 1) (by omega)
 have e2:q1h ds t=(List.range d.cons.length).map fun i=>((fc ds (t.toNat - 1)+i:Nat):Int):=by
  unfold q1h
  rw [if_pos (by omega),hd1]; rfl
 rw [e2]
 have h12:=fc_12 ht (t.toNat - 1)
 have h6:=q5s ht hd1
 refine ⟨by omega,by omega,by omega,?_⟩
 have hcut:q0q m (decls.cut 0 (t.toNat - 1) 3) (ds.take (t.toNat - 1)):=SlOf.cut0 hd (by omega)
 have hcc:=q8b hcut (by simp; omega) (fun d hd=>qpa ht d (List.mem_of_mem_take hd))
 rw [qsh] at hcc
 refine hcc.then fun m1 hx1=>⟨_,rfl,?_⟩
 obtain ⟨f,hf,g0,g1,g2⟩:=(q0q.ext hx1 hd).at' hd1
 have hfl:=hf.len
 refine ⟨by omega,by omega,f,by simpa using g2,?_⟩
 refine forSI (n:=d.cons.length) (by omega) (fun j s m'=>Ext m m'/\Own m m' ty_int 1 s (((List.range j).map fun i=>((fc ds (t.toNat - 1)+i:Nat):Int)).map Ce.i)/\s.len=j) ⟨hx1,by simpa using Own.nil m m1 ty_int 1,rfl⟩ ?_
 rintro j s m3 I μ hj ⟨hx,hs,hsl⟩ next
 refine ⟨fun h3=>?_,fun h3=>?_⟩
 ·simp only [decide_eq_true_eq] at h3
  intro m5
  have e3:w64 (((fc ds (t.toNat - 1):Nat):Int)+(j:Int))=((fc ds (t.toNat - 1)+j:Nat):Int):=by rw [q07 (by omega) (by omega)]; omega
  have hm5:m5=m3.push (.cells (vals [.i (((fc ds (t.toNat - 1)+j:Nat):Int))]) ty_int):=by rw [← e3]
  clear_value m5
  subst hm5
  refine Own.append (zs:=[.i 0]) (new:=[.i ((fc ds (t.toNat - 1)+j:Nat):Int)]) (hs.ext (Ext.push _ _)) (hx.pushed _) rfl (Blk.push _ _ _).row (by simp [hsl]; omega) ?_
  intro r m' h7 h8 h9 h10 h11 _
  refine next (by omega) _ _ ⟨h8,?_,by simp [h9,hsl]⟩
  rw [List.range_succ,List.map_append,List.map_append]
  exact h7
 ·simp only [decide_eq_false_iff_not] at h3
  have:j=d.cons.length:=by omega
  subst this
  exact ⟨_,rfl,q03.ofOwn hs (by simp; omega),hx⟩
theorem qs0 {ds:List Decl} {i j:Nat} {d:Decl} {f:List Int} (h:ds[i]?=some d) (hj:d.cons[j]?=some f):q2m ds ((fc ds i+j:Nat):Int)=f:=by
 unfold q2m
 rw [if_pos (by omega),Int.toNat_natCast,qei ds i j d h (q04 hj),hj]; rfl
theorem qqu {m:Mem} {decls:Sl} {ds:List Decl} (hd:q0q m decls ds) (ht:TypesOk ds) (c:Int) (hc:-1000000<=c/\c<=1000000):q08 Tryz.prog qd1 [Sl.v decls,vi c] m fun v m'=>∃ t s,v=.tuple #[vi t,.agg #[Sl.v s]]/\q03 m' s (q2m ds c)/\Ext m m':=by
 apply qnh
 simp -zeta only [q0a,q09,rI,rS,rB,cI,cB,cS,dI,dB,dS,gk,rg]
 intro m1
 have hx0:Ext m m1:=(Ext.refl m).pushed _
 have hs1:m.size < m1.size:=by simp [m1]
 clear_value m1
 have hdl:=hd.len
 have:=ht.len
 refine forSI (n:=ds.length) (by omega) (fun j c' m'=>Ext m m'/\m1.size<=m'.size/\c'=c - (fc ds j:Nat)/\¬ (0<=c/\c < fc ds j)) ⟨hx0,Nat.le_refl _,by cases ds <;> simp [fc],by cases ds <;> simp [fc]⟩ ?_
 rintro j c' m2 I μ hj ⟨hx,hsz,rfl,hno⟩ next
 refine ⟨fun h=>?_,fun h=>?_⟩
 ·simp only [decide_eq_true_eq] at h
  obtain ⟨d,hd1⟩:=q00 (l:=ds) (k:=j) (by omega)
  obtain ⟨f,hf,g0,g1,g2⟩:=(q0q.ext hx hd).at' hd1
  have hfl:=hf.len
  have h12:=fc_12 ht j
  have h6:=q5s ht hd1
  refine ⟨by omega,by omega,_,g0,_,g1,f,g2,?_⟩
  intro m3 m4
  have hx4:Ext m2 m4:=((Ext.refl m2).pushed _).scells (Nat.le_refl _) _ _
  have hnext:¬ (0<=c - (fc ds j:Nat)/\c - (fc ds j:Nat) < d.cons.length)->I (w64 (c - (fc ds j:Nat) - (f.len:Int))) (w64 ((j:Int)+1)) m4/\μ (w64 (c - (fc ds j:Nat) - (f.len:Int))) (w64 ((j:Int)+1)) m4 < μ (c - (fc ds j:Nat)) j m2:=by
   intro hq
   refine next (by omega) _ _ ⟨hx.trans hx4,Nat.le_trans hsz hx4.size,?_,?_⟩
   ·rw [q07 (by omega) (by omega),q6u hd1]; omega
   ·rw [q6u hd1]; omega
  refine ⟨fun h1=>⟨fun h2=>?_,fun h2=>hnext ?_⟩,fun h1=>hnext ?_⟩
  ·simp only [decide_eq_true_eq] at h1 h2
   obtain ⟨x,hx1⟩:=q00 (l:=d.cons) (k:=(c - (fc ds j:Nat)).toNat) (by omega)
   obtain ⟨g,hg,gg⟩:=(ConSl.ext hx4 hf).at' hx1
   refine ⟨by omega,by omega,g,gg,?_⟩
   intro m5
   have hx5:Ext m m5:=(hx.trans hx4).scells (Nat.le_refl _) _ _
   refine ⟨_,g,rfl,?_,hx5⟩
   have e:q2m ds c=x:=by
    have:=qs0 hd1 hx1
    rw [← this]; congr 1; omega
   rw [e]
   obtain ⟨f',hf',_,_,g2'⟩:=hd.at' hd1
   have hff:f=f':=by
    have:=hx.gcell g2'
    rw [g2] at this
    exact Sl.v_inj.1 (by simpa using this)
   subst hff
   obtain ⟨g',hg',gg'⟩:=hf'.at' hx1
   have hgg:g=g':=by
    have:=(hx.trans hx4).gcell gg'
    rw [gg] at this
    exact Sl.v_inj.1 (by simpa using this)
   subst hgg
   exact hg'.ext hx5
  ·simp at h1 h2; omega
  ·simp at h1; omega
 ·simp only [decide_eq_false_iff_not] at h
  intro m5
  have hx5:Ext m m5:=hx.scells (Nat.le_refl _) _ _
  refine ⟨_,.nil,rfl,?_,hx5⟩
  have e:q2m ds c=[]:=by
   unfold q2m
   split
   ·rw [List.getElem?_eq_none (by rw [← fc_all ds j (by omega)]; omega)]; rfl
   ·rfl
  rw [e]
  exact ⟨rfl,Nat.le_refl _,by simp,by simp⟩
theorem qmu {m:Mem} {decls:Sl} {ds:List Decl} (hd:q0q m decls ds) (ht:TypesOk ds) (c:Int) (hc:-1000000<=c/\c<=1000000):q08 Tryz.prog q9t [Sl.v decls,vi c] m fun v m'=>∃ s,v=Sl.v s/\q03 m' s (q2m ds c)/\Ext m m':=by
 apply qib
 simp -zeta only [q0a,q09,rI,rS,rB,cI,cB,cS,dI,dB,dS,gk,rg]
 refine (qqu hd ht c hc).mono ?_
 rintro _ m1 ⟨t,s,rfl,hs,hx⟩
 refine ⟨t,s,rfl,?_⟩
 intro m2 m3
 have hx3:Ext m1 m3:=((Ext.refl m1).pushed _).scells (Nat.le_refl _) _ _
 exact ⟨s,rfl,hs.ext hx3,hx.trans hx3⟩
theorem qe3 {m:Mem} {s:Sl} {l:List Int} (hl:q03 m s l) (g:Nat) (fs cs:Array Value) (hg:GL.elem g=true) (q:Int->Prop)
  (hf:∀ x ∈ l,∀ m',Ext m m'->q0o Tryz.prog g (fs.toList ++ [vi x] ++ cs.toList) m' (q x)) :
  q08 Tryz.prog q49 [Sl.v s,.func (.func g) fs cs] m fun v m'=>∃ r:Int,v=vi r/\Ext m m' /\
   ((r=-1/\∀ x ∈ l,¬ q x) \/ ∃ (k:Nat) (x:Int),r=k/\l[k]?=some x/\q x/\∀ y ∈ l.take k,¬ q y):=by
 apply q95 s (.func g,fs,cs)
 have hll:=hl.len
 refine forI (n:=l.length) (hll ▸ hl.lim) (fun k m'=>Ext m m'/\∀ y ∈ l.take k,¬ q y) ⟨Ext.refl _,by simp⟩ ?_
 rintro k m1 I μ hk ⟨hx,hn⟩ next
 refine ⟨fun h=>?_,fun h=>?_⟩
 ·simp only [decide_eq_true_eq] at h
  obtain ⟨x,hx1⟩:=q00 (l:=l) (k:=k) (by omega)
  refine ⟨by omega,by omega,x,by simpa using hx.gcell (hl.at' hx1),g,rfl,hg,?_⟩
  refine (hf x (q05 hx1) m1 hx).then fun b m2 hb h2=>⟨_,rfl,fun h=>?_,fun h=>?_⟩
  ·exact ⟨_,rfl,hx.trans h2,Or.inr ⟨k,x,rfl,hx1,hb.1 h,hn⟩⟩
  ·exact next (by omega) _ ⟨hx.trans h2,q0f hx1 hn (fb hb h)⟩
 ·simp only [decide_eq_false_iff_not] at h
  exact ⟨_,rfl,hx,Or.inl ⟨rfl,q0w (by omega) hn⟩⟩
theorem q37 {m:Mem} {s:Sl} {l:List Int} (hl:q03 m s l) (g:Nat) (fs cs:Array Value) (hg:GL.elem g=true) (q:Int->Prop)
  (hf:∀ x ∈ l,∀ m',Ext m m'->q0o Tryz.prog g (fs.toList ++ [vi x] ++ cs.toList) m' (q x)) :
  q0o Tryz.prog q12 [Sl.v s,.func (.func g) fs cs] m (∃ x ∈ l,q x):=by
 apply q7t s (.func g,fs,cs)
 refine (qe3 hl g fs cs hg q hf).mono ?_
 rintro _ m1 ⟨r,rfl,hx,h⟩
 refine ⟨_,rfl,retB ?_ hx⟩
 simp only [ge_iff_le,decide_eq_true_eq]
 rcases h with ⟨rfl,h⟩ | ⟨k,x,rfl,h1,h2,h3⟩
 ·exact ⟨fun h'=>by omega,fun ⟨x,h1,h2⟩=>absurd h2 (h x h1)⟩
 ·exact ⟨fun _=>⟨x,q05 h1,h2⟩,fun _=>by omega⟩
end
section
theorem q4c {ds:List Decl} {k:Nat} {d:Decl}:DeclOk ds k d ↔ ((IsTy ds.length d.frm/\IsTy ds.length d.to/\d.cons.length<=3/\(0 < d.cons.length->d.frm=0/\d.to=0)) /\
  (∀ f ∈ d.cons,f.length<=3/\AllTy ds.length f)/\∀ e ∈ ds.take k,¬ (d.cons.length=0/\e.cons.length=0/\e.frm=d.frm/\e.to=d.to)):=by
 constructor
 ·intro h
  rcases Nat.eq_zero_or_pos d.cons.length with h0 | h0
  ·obtain ⟨h1,h2,h3⟩:=h.none' h0
   refine ⟨⟨h2,h3,by omega,fun h=>by omega⟩,fun f hf=>?_,fun e he hq=>h1 e he hq.2⟩
   rw [List.length_eq_zero_iff.1 h0] at hf; cases hf
  ·obtain ⟨h1,h2,h3,h4⟩:=h.some' h0
   exact ⟨⟨by unfold IsTy; omega,by unfold IsTy; omega,h1,fun _=>⟨h2,h3⟩⟩,h4,fun e he hq=>by omega⟩
 ·rintro ⟨⟨h1,h2,h3,h4⟩,h5,h6⟩
  exact ⟨fun h0=>⟨h3,(h4 h0).1,(h4 h0).2,h5⟩,fun h0=>⟨fun e he hq=>h6 e he ⟨h0,hq⟩,h1,h2⟩⟩
set_option maxHeartbeats 1000000 in
theorem qj5 {m:Mem} {decls:Sl} {ds:List Decl} (hd:q0q m decls ds):q0o Tryz.prog q7b [Sl.v decls] m (TypesOk ds):=by
 apply qfd
 simp -zeta only [q0a,q09,rI,rS,rB,cI,cB,cS,dI,dB,dS,gk,rg]
 have hdl:=hd.len
 have hdc:=hd.cap
 refine ⟨fun h=>?_,fun h=>?_⟩
 ·simp only [decide_eq_true_eq] at h
  exact retF (fun hp=>by have:=hp.len; omega) (Ext.refl _)
 simp only [decide_eq_false_iff_not] at h
 refine forI (n:=ds.length) (by omega) (fun k m'=>Ext m m'/\∀ (j:Nat) (d:Decl),j < k->ds[j]?=some d->DeclOk ds j d) ⟨Ext.refl _,by simp⟩ ?_
 rintro j m1 I μ hj ⟨hx,hn⟩ next
 refine ⟨fun h1=>?_,fun h1=>?_⟩
 ·simp only [decide_eq_true_eq] at h1
  obtain ⟨d,hd1⟩:=q00 (l:=ds) (k:=j) (by omega)
  obtain ⟨f,hf,g0,g1,g2⟩:=(q0q.ext hx hd).at' hd1
  have hfl:=hf.len
  refine ⟨by omega,by omega,_,g0,_,g1,f,g2,?_⟩
  intro m2 m3
  have hx3:Ext m1 m3:=((Ext.refl m1).pushed _).scells (Nat.le_refl _) _ _
  have hl:∀ b ∈ [m1.size],b < m3.size:=by simp [m3,m2,q02]
  clear_value m3
  have hxm:=hx.trans hx3
  have bad:∀ {m':Mem},Ext m3 m'->¬ DeclOk ds j d->∃ b':Bool,vb false=.bool b'/\(b'=true ↔ TypesOk ds)/\Ext m m':=fun hx' hno=>retF (fun hp=>hno (hp.each j d hd1)) (hxm.trans hx')
  refine ⟨fun m'=>Ext m3 m'/\IsTy ds.length d.frm/\IsTy ds.length d.to/\d.cons.length<=3/\(0 < d.cons.length->d.frm=0/\d.to=0),?_,?_⟩
  ·refine (q6y _ _ _).thenS (Ext.refl _) hl fun b m4 hb h2 h3=>⟨_,rfl,fun h4=>?_,fun h4=>?_⟩
   ·exact bad h3 fun hp=>nb hb h4 (hdl ▸ (q4c.1 hp).1.1)
   have hfrm:=yb hb h4
   refine (q6y _ _ _).thenS h3 hl fun b m5 hb h5 h6=>⟨_,rfl,fun h7=>?_,fun h7=>?_⟩
   ·exact bad h6 fun hp=>nb hb h7 (hdl ▸ (q4c.1 hp).1.2.1)
   have hto:=yb hb h7
   rw [hdl] at hfrm hto
   refine ⟨fun h8=>?_,fun h8=>?_⟩
   ·simp only [decide_eq_true_eq] at h8
    exact bad h6 fun hp=>by have:=(q4c.1 hp).1.2.2.1; omega
   simp only [decide_eq_false_iff_not] at h8
   refine ⟨fun h9=>?_,fun h9=>?_⟩
   ·simp only [decide_eq_true_eq] at h9
    refine ⟨fun h10=>?_,fun h10=>?_⟩
    ·simp only [bne_iff_ne] at h10
     exact bad h6 fun hp=>h10 ((q4c.1 hp).1.2.2.2 (by omega)).1
    simp only [bne_eq_false_iff_eq] at h10
    refine ⟨fun h11=>?_,fun h11=>?_⟩
    ·simp only [bne_iff_ne] at h11
     exact bad h6 fun hp=>h11 ((q4c.1 hp).1.2.2.2 (by omega)).2
    simp only [bne_eq_false_iff_eq] at h11
    exact ⟨h6,hfrm,hto,by omega,fun _=>⟨h10,h11⟩⟩
   ·simp only [decide_eq_false_iff_not] at h9
    exact ⟨h6,hfrm,hto,by omega,fun h0=>by omega⟩
  ·rintro m4 ⟨hx4,hfirst⟩
   have hf4:=ConSl.ext (hx3.trans hx4) hf
   refine forI (n:=d.cons.length) (by omega) (fun k m'=>Ext m3 m'/\∀ f ∈ d.cons.take k,f.length<=3/\AllTy ds.length f) ⟨hx4,by simp⟩ ?_
   rintro i m5 I2 μ2 hi ⟨hx5,hn5⟩ next5
   refine ⟨fun h2=>?_,fun h2=>?_⟩
   ·simp only [decide_eq_true_eq] at h2
    obtain ⟨c,hc⟩:=q00 (l:=d.cons) (k:=i) (by omega)
    obtain ⟨g,hg,gg⟩:=(ConSl.ext (hx3.trans hx5) hf).at' hc
    have hgl:=hg.len
    refine ⟨by omega,by omega,g,gg,?_⟩
    intro m6 m7
    have hx7:Ext m5 m7:=((Ext.refl m5).pushed _).scells (Nat.le_refl _) _ _
    have hl7:∀ b ∈ [m5.size,m1.size],b < m7.size:=by
     have:=hx5.lt (hl m1.size (by simp))
     simp [m7,m6,q02]; omega
    clear_value m7
    refine ⟨fun h3=>?_,fun h3=>?_⟩
    ·simp only [decide_eq_true_eq] at h3
     exact bad (hx5.trans hx7) fun hp=>by have:=((q4c.1 hp).2.1 c (q05 hc)).1; omega
    simp only [decide_eq_false_iff_not] at h3
    refine (qd6 (hg.ext hx7) _).thenS (Ext.refl _) hl7 fun b m8 hb h4 h5=>⟨_,rfl,fun h6=>?_,fun h6=>?_⟩
    ·exact bad ((hx5.trans hx7).trans h4) fun hp=>nb hb h6 (hdl ▸ ((q4c.1 hp).2.1 c (q05 hc)).2)
    ·exact next5 (by omega) _ ⟨(hx5.trans hx7).trans h4,q0f hc hn5 ⟨by omega,hdl ▸ yb hb h6⟩⟩
   ·simp only [decide_eq_false_iff_not] at h2
    have hall:=q0w (by omega) hn5
    refine ⟨by omega,by omega,by omega,?_⟩
    have hcut:q0q m5 (decls.cut 0 j 3) (ds.take j):=SlOf.cut0 (q0q.ext (hxm.trans hx5) hd) (by omega)
    have hcl:(decls.cut 0 j 3).len=j:=by rw [hcut.len]; simp; omega
    simp -zeta only [Int.toNat_natCast,Int.toNat_zero]
    refine forI (n:=j) (by omega) (fun k m'=>Ext m5 m'/\∀ e ∈ ds.take k,¬ (d.cons.length=0/\e.cons.length=0/\e.frm=d.frm/\e.to=d.to)) ⟨Ext.refl _,by simp⟩ ?_
    rintro i2 m6 I3 μ3 hi2 ⟨hx6,hn6⟩ next6
    refine ⟨fun h3=>?_,fun h3=>?_⟩
    ·simp only [decide_eq_true_eq] at h3
     obtain ⟨e,he⟩:=q00 (l:=ds) (k:=i2) (by omega)
     have he':(ds.take j)[i2]?=some e:=by rw [List.getElem?_take,if_pos (by omega)]; exact he
     obtain ⟨f',hf',q0,q1,q2⟩:=(q0q.ext hx6 hcut).at' he'
     have hfl':=hf'.len
     refine ⟨by omega,by omega,_,q0,_,q1,f',q2,?_⟩
     intro m7 m8
     have hx8:Ext m6 m8:=((Ext.refl m6).pushed _).scells (Nat.le_refl _) _ _
     clear_value m8
     have hnext:¬ (d.cons.length=0/\e.cons.length=0/\e.frm=d.frm/\e.to=d.to)->I3 (w64 ((i2:Int)+1)) m8/\μ3 (w64 ((i2:Int)+1)) m8 < μ3 i2 m6:=fun hq=>next6 (by omega) _ ⟨hx6.trans hx8,q0f he hn6 hq⟩
     refine ⟨fun h4=>?_,fun h4=>?_⟩
     ·simp only [beq_iff_eq] at h4
      refine ⟨fun h5=>?_,fun h5=>?_⟩
      ·simp only [beq_iff_eq] at h5
       refine ⟨fun h6=>?_,fun h6=>?_⟩
       ·simp only [beq_iff_eq] at h6
        refine ⟨fun h7=>?_,fun h7=>?_⟩
        ·simp only [beq_iff_eq] at h7
         exact bad ((hx5.trans hx6).trans hx8) fun hp=>(q4c.1 hp).2.2 e (q05 he') ⟨by omega,by omega,h6,h7⟩
        ·simp only [beq_eq_false_iff_ne] at h7
         exact hnext fun hq=>h7 hq.2.2.2
       ·simp only [beq_eq_false_iff_ne] at h6
        exact hnext fun hq=>h6 hq.2.2.1
      ·simp only [beq_eq_false_iff_ne] at h5
       exact hnext fun hq=>h5 (by omega)
     ·simp only [beq_eq_false_iff_ne] at h4
      exact hnext fun hq=>h4 (by omega)
    ·simp only [decide_eq_false_iff_not] at h3
     have:i2=j:=by omega
     subst this
     refine next (by omega) _ ⟨(hxm.trans hx5).trans hx6,fun i' d' hi' hd'=>?_⟩
     by_cases ei:i'=i2
     ·subst ei
      rw [hd1] at hd'; simp at hd'; subst hd'
      exact q4c.2 ⟨hfirst,hall,hn6⟩
     ·exact hn i' d' (by omega) hd'
 ·simp only [decide_eq_false_iff_not] at h1
  exact retT ⟨by omega,fun i d hid=>hn i d (by have:=q04 hid; omega) hid⟩ hx
def SigR (m:Mem) (cs:List Ce) (p:Proc):Prop:=∃ a l,cs=[.s a,.s l,.i p.result]/\q03 m a p.params/\q03 m l p.lent
theorem SigR.ext {m m':Mem} (hm:Ext m m') (cs:List Ce) (c:Proc):SigR m cs c->SigR m' cs c:=fun ⟨f,g,h1,h2,h3⟩=>⟨f,g,h1,h2.ext hm,h3.ext hm⟩
abbrev SigSl (m:Mem) (s:Sl) (l:List Proc):Prop:=SlOf m 3 (SigR m) s l
theorem SigSl.ext {m m':Mem} (hm:Ext m m') {s:Sl} {l:List Proc} (h:SigSl m s l):SigSl m' s l:=h.mono hm (SigR.ext hm)
theorem SigSl.at' {m:Mem} {s:Sl} {l:List Proc} (h:SigSl m s l) {k:Nat} {x:Proc} (hk:l[k]?=some x) :
  ∃ a b,q03 m a x.params/\q03 m b x.lent/\gcell m s.blk (s.off+k*3)=some (Sl.v a)/\gcell m s.blk (s.off+k*3+1)=some (Sl.v b)/\gcell m s.blk (s.off+k*3+2)=some (vi x.result):=by
 obtain ⟨cs,⟨a,b,rfl,ha,hb⟩,hr⟩:=h.row k x hk
 exact ⟨a,b,ha,hb,hr 0 (.s a) rfl,hr 1 (.s b) rfl,hr 2 (.i x.result) rfl⟩
set_option maxHeartbeats 1000000 in
theorem qko {m:Mem} {d f:Sl} {ds:List Decl} {ps:List Proc} (hd:q0q m d ds) (hf:SigSl m f ps) :
  q0o Tryz.prog q8c [Sl.v d,Sl.v f] m (SigsOk ds ps/\∀ p ∈ ps,LentOk p.params p.lent):=by
 apply qgt
 simp -zeta only [q0a,q09,rI,rS,rB,cI,cB,cS,dI,dB,dS,gk,rg]
 have hdl:=hd.len
 have hfl:=hf.len
 refine (qj5 hd).then fun b m1 hb hx1=>⟨_,rfl,fun h1=>?_,fun h1=>?_⟩
 ·exact retF (fun hp=>nb hb h1 hp.1.types) hx1
 have ht:=yb hb h1
 refine ⟨fun h2=>?_,fun h2=>?_⟩
 ·simp only [decide_eq_true_eq] at h2
  exact retF (fun hp=>by have:=hp.1.len; omega) hx1
 simp only [decide_eq_false_iff_not] at h2
 refine ⟨fun h3=>?_,fun h3=>?_⟩
 ·simp only [decide_eq_true_eq] at h3
  exact retF (fun hp=>by have:=hp.1.len; omega) hx1
 simp only [decide_eq_false_iff_not] at h3
 obtain ⟨p0,hp0⟩:=q00 (l:=ps) (k:=0) (by omega)
 obtain ⟨a0,l0,ha0,hl0,g0,g1,g2⟩:=(SigSl.ext hx1 hf).at' hp0
 have ha0l:=ha0.len
 refine ⟨by omega,by omega,a0,g0,fun h4=>?_,fun h4=>?_⟩
 ·simp only [decide_eq_true_eq] at h4
  exact retF (fun hp=>by have:=(hp.1.first p0 hp0).1; omega) hx1
 simp only [decide_eq_false_iff_not] at h4
 refine ⟨by omega,by omega,_,g2,fun h5=>?_,fun h5=>?_⟩
 ·simp only [bne_iff_ne] at h5
  exact retF (fun hp=>h5 (hp.1.first p0 hp0).2) hx1
 simp only [bne_eq_false_iff_eq] at h5
 refine forI (n:=ps.length) (by omega) (fun j m'=>Ext m m'/\∀ p ∈ ps.take j,(p.params.length<=3/\AllTy ds.length p.params/\IsTy ds.length p.result)/\LentOk p.params p.lent) ⟨hx1,by simp⟩ ?_
 rintro j m2 I μ hj ⟨hx,hn⟩ next
 refine ⟨fun h6=>?_,fun h6=>?_⟩
 ·simp only [decide_eq_true_eq] at h6
  obtain ⟨p,hp1⟩:=q00 (l:=ps) (k:=j) (by omega)
  obtain ⟨a,l,ha,hl,q0,q1,q2⟩:=(SigSl.ext hx hf).at' hp1
  have hal:=ha.len
  have hll:=hl.len
  have hlim:=hl.lim
  refine ⟨by omega,by omega,a,q0,l,q1,_,q2,?_⟩
  intro m3 m4
  have hx4:Ext m2 m4:=((Ext.refl m2).pushed _).scells (Nat.le_refl _) _ _
  have hl4:∀ b ∈ [m2.size],b < m4.size:=by simp [m4,m3,q02]
  clear_value m4
  refine ⟨fun h7=>?_,fun h7=>?_⟩
  ·simp only [decide_eq_true_eq] at h7
   exact retF (fun hp=>by have:=(hp.1.each p (q05 hp1)).1; omega) (hx.trans hx4)
  simp only [decide_eq_false_iff_not] at h7
  refine (qd6 (ha.ext hx4) _).thenS (Ext.refl _) hl4 fun b m5 hb h8 h9=>⟨_,rfl,fun h10=>?_,fun h10=>?_⟩
  ·exact retF (fun hp=>nb hb h10 (hdl ▸ (hp.1.each p (q05 hp1)).2.1)) ((hx.trans hx4).trans h8)
  have hty:=yb hb h10
  refine (q6y _ _ _).thenS h9 hl4 fun b m6 hb h11 h12=>⟨_,rfl,fun h13=>?_,fun h13=>?_⟩
  ·exact retF (fun hp=>nb hb h13 (hdl ▸ (hp.1.each p (q05 hp1)).2.2)) ((hx.trans hx4).trans h12)
  have hres:=yb hb h13
  rw [hdl] at hty hres
  have hx6:Ext m m6:=(hx.trans hx4).trans h12
  have hx26:Ext m2 m6:=hx4.trans h12
  refine forI (n:=p.lent.length) (by omega) (fun k m'=>m'=m6/\∀ (j:Nat) (v:Int),j < k->p.lent[j]?=some v->(∃ t,0<=v/\p.params[v.toNat]?=some t/\t ≠ 0)/\(∀ u:Int,0 < j->p.lent[j - 1]?=some u->u < v)) ⟨rfl,by simp⟩ ?_
  rintro k m7 I2 μ2 hk ⟨rfl,hn7⟩ next7
  have bad:¬ LentOk p.params p.lent->∃ b':Bool,vb false=.bool b'/\(b'=true ↔ SigsOk ds ps/\∀ p ∈ ps,LentOk p.params p.lent)/\Ext m m7:=fun hno=>retF (fun hp=>hno (hp.2 p (q05 hp1))) hx6
  refine ⟨fun h14=>?_,fun h14=>?_⟩
  ·simp only [decide_eq_true_eq] at h14
   obtain ⟨x,hx1'⟩:=q00 (l:=p.lent) (k:=k) (by omega)
   refine ⟨by omega,by omega,x,by simpa using hx26.gcell (hl.at' hx1'),fun h15=>?_,fun h15=>?_⟩
   ·simp only [decide_eq_true_eq] at h15
    exact bad fun hp=>by obtain ⟨⟨t,h16,_⟩,_⟩:=hp k x hx1'; omega
   simp only [decide_eq_false_iff_not] at h15
   refine ⟨fun h16=>?_,fun h16=>?_⟩
   ·simp only [ge_iff_le,decide_eq_true_eq] at h16
    refine bad fun hp=>?_
    obtain ⟨⟨t,_,h17,_⟩,_⟩:=hp k x hx1'
    have:=q04 h17; omega
   simp only [ge_iff_le,decide_eq_false_iff_not] at h16
   obtain ⟨t,ht1⟩:=q00 (l:=p.params) (k:=x.toNat) (by omega)
   refine ⟨by omega,by omega,t,by simpa using hx26.gcell (ha.at' ht1),fun h17=>?_,fun h17=>?_⟩
   ·simp only [beq_iff_eq] at h17
    refine bad fun hp=>?_
    obtain ⟨⟨t',_,h18,h19⟩,_⟩:=hp k x hx1'
    rw [ht1] at h18; simp at h18; exact h19 (h18 ▸ h17)
   simp only [beq_eq_false_iff_ne] at h17
   refine ⟨fun h18=>?_,fun h18=>?_⟩
   ·simp only [decide_eq_true_eq] at h18
    have e2:w64 ((k:Int) - 1)=((k - 1:Nat):Int):=by rw [q07 (by omega) (by omega)]; omega
    obtain ⟨y,hy⟩:=q00 (l:=p.lent) (k:=k - 1) (by omega)
    rw [e2]
    refine ⟨by omega,by omega,y,by simpa using hx26.gcell (hl.at' hy),fun h19=>?_,fun h19=>?_⟩
    ·simp only [decide_eq_true_eq] at h19
     exact bad fun hp=>by have:=(hp k x hx1').2 y (by omega) hy; omega
    ·simp only [decide_eq_false_iff_not] at h19
     refine next7 (by omega) _ ⟨rfl,fun j' v hj' hv=>?_⟩
     by_cases e:j'=k
     ·subst e
      rw [hx1'] at hv; simp at hv; subst hv
      refine ⟨⟨t,by omega,ht1,h17⟩,fun u _ hu=>?_⟩
      rw [hy] at hu; simp at hu; subst hu; omega
     ·exact hn7 j' v (by omega) hv
   ·simp only [decide_eq_false_iff_not] at h18
    refine next7 (by omega) _ ⟨rfl,fun j' v hj' hv=>?_⟩
    by_cases e:j'=k
    ·subst e
     rw [hx1'] at hv; simp at hv; subst hv
     exact ⟨⟨t,by omega,ht1,h17⟩,fun u h0 _=>by omega⟩
    ·exact hn7 j' v (by omega) hv
  ·simp only [decide_eq_false_iff_not] at h14
   exact next (by omega) _ ⟨hx6,q0f hp1 hn ⟨⟨by omega,hty,hres⟩,fun j' v hv=>hn7 j' v (by have:=q04 hv; omega) hv⟩⟩
 ·simp only [decide_eq_false_iff_not] at h6
  have hall:=q0w (by omega) hn
  refine retT ⟨⟨ht,by omega,fun p hp=>(hall p hp).1,fun p hp=>?_⟩,fun p hp=>(hall p hp).2⟩ hx
  rw [hp0] at hp; simp at hp; subst hp
  exact ⟨by omega,h5⟩
end
section
theorem ql8 {m:Mem} {d p:Sl} {im:Image} (h:ImageR m d p im) :
  q08 Tryz.prog q8v [.agg #[Sl.v d,Sl.v p]] m fun v m'=>∃ d' f b,v=.tuple #[.agg #[Sl.v d',Sl.v f],vb b]/\(b=true ↔ SigsOk im.decls im.procs/\∀ p ∈ im.procs,LentOk p.params p.lent) /\
   (b=true->d'=d/\SigSl m' f im.procs)/\Ext m m':=by
 apply qgr
 simp -zeta only [q0a,q09,rI,rS,rB,cI,cB,cS,dI,dB,dS,gk,rg]
 intro m1 m2
 have hpl:=h.procs.len
 have s1:m1.size=m.size+1:=by simp [m1]
 have s2:m2.size=m.size+2:=by simp [m2,m1]
 have hx2:Ext m m2:=((Ext.refl m).pushed _).pushed _
 refine ⟨fun h1=>?_,fun h1=>?_⟩
 ·simp only [decide_eq_true_eq] at h1
  intro m3
  exact ⟨_,_,_,rfl,⟨fun h=>by simp at h,fun h=>by have:=h.1.len; omega⟩,fun h=>by simp at h,hx2.scells (by omega) _ _⟩
 simp only [decide_eq_false_iff_not] at h1
 intro m4 m5
 have s5:m5.size=m.size+3:=by simp [m5,m4,q02,s2]
 have hx5:Ext m m5:=(hx2.pushed _).scells (by omega) _ _
 have hb5:Blk m5 m2.size q50 [.s d,.s .nil]:=Blk.scells (m:=m4) (o:=0) (r:=[.s d,.s .nil]) (Blk.push m2 _ _)
 clear_value m5
 refine forI (n:=im.procs.length) (by omega) (fun k m'=>Ext m m'/\m5.size<=m'.size/\∃ r css,Blk m' m2.size q50 [.s d,.s r]/\Own m m' q7g 3 r css.flatten/\RowsOf 3 (SigR m) css (im.procs.take k)/\(r ≠ .nil->m2.size < r.blk)/\r.len=k)
  ⟨hx5,Nat.le_refl _,.nil,[],hb5,Own.nil _ _ _ _,by simpa using RowsOf.nil 3 (SigR m),by simp,rfl⟩ ?_
 rintro k m6 I μ hk ⟨hx,hsz,r,css,hbx,hown,hrows,hr2,hrl⟩ next
 refine ⟨fun h2=>?_,fun h2=>?_⟩
 ·simp only [decide_eq_true_eq] at h2
  obtain ⟨q,hq⟩:=q00 (l:=im.procs) (k:=k) (by omega)
  obtain ⟨a,b,c,ha,hb,hc,g0,g1,g2,g3,g4⟩:=h.procs.at' hq
  refine ⟨by omega,by omega,a,by simpa using hx.gcell g0,b,by simpa using hx.gcell g1,_,by simpa using hx.gcell g2,_,by simpa using hx.gcell g3,c,by simpa using hx.gcell g4,?_⟩
  intro m7 m8
  have hx8:Ext m6 m8:=((Ext.refl m6).pushed _).scells (Nat.le_refl _) _ _
  have s8:m8.size=m6.size+1:=by simp [m8,m7,q02]
  clear_value m8
  refine ⟨r,(hbx.ext hx8).get 1,?_⟩
  intro m9
  have hx9:Ext m6 m9:=hx8.pushed _
  have s9:m9.size=m6.size+2:=by simp [m9,s8]
  have hrow:rowIs m9 m8.size 0 [.s a,.s b,.i q.result]:=(Blk.push m8 _ _).row
  clear_value m9
  refine Own.append (zs:=[.s .nil,.s .nil,.i 0]) (new:=[.s a,.s b,.i q.result]) (hown.ext hx9) (hx.trans hx9) rfl hrow (by simp [hrl]; omega) ?_
  intro r' m10 h7 h8 h9 h10 h11 h12
  have hr':r' ≠ .nil->m2.size < r'.blk:=by
   intro hne
   rcases h12 with e | ⟨hrn,e⟩ | e
   ·exact absurd e hne
   ·have:=hr2 hrn; omega
   ·omega
  have hfr:∀ b',b' < m9.size->b'<=m2.size \/ b'=m6.size/\(r=.nil \/ r.blk < m6.size)->m10[b']?=m9[b']?:=by
   intro b' hb' hc
   refine h11 b' hb' fun hne=>?_
   have:=hr2 hne
   rcases hc with hc | ⟨rfl,hc | hc⟩
   ·omega
   ·exact absurd hc hne
   ·omega
  have hrlt:r=.nil \/ r.blk < m6.size:=hown.lt
  have hbx10:Blk m10 m2.size q50 [.s d,.s r]:=(hbx.ext hx9).congr (hfr _ (by omega) (Or.inl (Nat.le_refl _)))
  refine ⟨fun b' hb'=>?_,hbx10.wrOk (by simp),?_⟩
  ·simp at hb'
   rcases hb' with rfl | rfl | rfl
   ·exact hfr _ (by omega) (Or.inr ⟨rfl,hrlt⟩)
   ·exact hfr _ (by omega) (Or.inl (by omega))
   ·exact hfr _ (by omega) (Or.inl (by omega))
  intro m11
  have s11:m11.size=m10.size:=by simp [m11,q02]
  have hb11:Blk m11 m2.size q50 [.s d,.s r']:=Blk.scells (m:=m10) (o:=1) (r:=[.s r']) hbx10
  have hne11:∀ b,b ≠ m2.size->m11[b]?=m10[b]?:=fun b hb=>q0n _ _ _ _ hb
  have hx11:Ext m m11:=h8.scells (by omega) _ _
  clear_value m11
  refine ⟨fun b' hb'=>?_,?_⟩
  ·simp at hb'
   rcases hb' with rfl | rfl | rfl <;> exact hne11 _ (by omega)
  refine next (by omega) _ ⟨hx11,by omega,r',css ++ [[.s a,.s b,.i q.result]],hb11,?_,?_,hr',by simp [h9,hrl]⟩
  ·rw [List.flatten_append]
   have h7':Own m m10 q7g 3 r' (css.flatten ++ [[.s a,.s b,.i q.result]].flatten):=by simpa using h7
   rcases h7'.lt with e | e
   ·subst e; exact ⟨h7'.len,Or.inl rfl⟩
   ·refine h7'.congr (hne11 _ fun e2=>?_)
    by_cases hn:r'=.nil
    ·subst hn
     have:=h9
     simp at this
    ·have:=hr' hn; omega
  ·rw [q06 hq]
   exact hrows.snoc rfl ⟨a,b,rfl,ha,hb⟩
 ·simp only [decide_eq_false_iff_not] at h2
  rw [q0b (by omega)] at hrows
  have hsig:SigSl m6 r im.procs:=(SlOf.ofOwn hown hrows (by omega) (by omega)).mono (Ext.refl _) (SigR.ext hx)
  refine ⟨d,hbx.get 0,r,hbx.get 1,r,hbx.get 1,?_⟩
  have hl:∀ b ∈ [m1.size,m.size],b < m6.size:=by simp; omega
  refine (qko (q0q.ext hx h.decls) hsig).thenS (Ext.refl _) hl fun b m7 hb h3 _=>⟨_,rfl,h3.keepG (hbx.get 0),h3.keepG (hbx.get 1),?_⟩
  intro m8
  have hne:∀ b,b ≠ m1.size->m8[b]?=m7[b]?:=fun b hb=>q0n _ _ _ _ hb
  have hx8:Ext m m8:=(hx.trans h3).scells (by omega) _ _
  refine ⟨d,r,b,rfl,hb,fun _=>⟨rfl,?_⟩,hx8⟩
  have hown7:=hown.ext h3
  have hown8:Own m m8 q7g 3 r css.flatten:=by
   by_cases hn:r=.nil
   ·subst hn; exact ⟨hown7.len,Or.inl rfl⟩
   ·exact hown7.congr (hne _ (by have:=hr2 hn; omega))
  exact (SlOf.ofOwn hown8 hrows (by omega) (by omega)).mono (Ext.refl _) (SigR.ext hx8)
def NumOk (im:Image) (i:Instr) (later:Int->Prop):Prop :=
 if i.op=0 then -999<=i.num/\i.num<=999
 else if i.op=6 then 0<=i.num/\i.num < (q17 im.decls).length
 else if i.op=9 \/ i.op=24 then 0<=i.num/\i.num < im.procs.length
 else if i.op=10 then 0<=i.num/\∃ q,im.procs[i.num.toNat]?=some q/\q.lent.length=0
 else if i.op=19 then 0<=i.num/\i.num < 3
 else if i.op=20 \/ i.op=22 then later i.num
 else if i.op=21 then 0 < (q1h im.decls i.num).length/\i.jumps.length=(q1h im.decls i.num).length
 else i.num=0
theorem qmw {m:Mem} {d f:Sl} {im:Image} (hd:q0q m d im.decls) (ht:TypesOk im.decls) (hf:SigSl m f im.procs) {i:Instr} {a j:Sl} (ha:q03 m a i.args) (hj:q03 m j i.jumps) (g:Nat) (fs cs:Array Value) (hg:GL.elem g=true) (later:Int->Prop)
  (hlater:∀ m',Ext m m'->q0o Tryz.prog g (fs.toList ++ [vi i.num] ++ cs.toList) m' (later i.num)) :
  q0o Tryz.prog q2e [.agg #[Sl.v d,Sl.v f],.agg #[vi i.op,vi i.dst,vi i.num,vi i.into,Sl.v a,Sl.v j],.func (.func g) fs cs] m (NumOk im i later):=by
 apply q9o d f i.op i.dst i.num i.into a j (.func g,fs,cs)
 simp -zeta only [q0a,q09,rI,rS,rB,cI,cB,cS,dI,dB,dS,gk,rg]
 intro m1 m2
 have hx2:Ext m m2:=((Ext.refl m).pushed _).pushed _
 have hl:∀ b ∈ [m1.size,m.size],b < m2.size:=by simp [m2,m1]; omega
 have hfl:=hf.len
 have hjl:=hj.len
 have hB:Blk m2 m1.size q2d [.i i.op,.i i.dst,.i i.num,.i i.into,.s a,.s j]:=Blk.push _ _ _
 clear_value m2
 refine ⟨fun e0=>?_,fun e0=>?_⟩
 ·simp only [beq_iff_eq] at e0
  rw [show NumOk im i later ↔ -999<=i.num/\i.num<=999 by rw [NumOk,if_pos e0]]
  refine ⟨fun h=>retB ?_ hx2,fun h=>retF ?_ hx2⟩ <;> simp at h
  ·simp; omega
  ·omega
 simp only [beq_eq_false_iff_ne] at e0
 refine ⟨fun e1=>?_,fun e1=>?_⟩
 ·simp only [beq_iff_eq] at e1
  rw [show NumOk im i later ↔ 0<=i.num/\i.num < (q17 im.decls).length by rw [NumOk,if_neg e0,if_pos e1]]
  refine ⟨fun h=>?_,fun h=>retF ?_ hx2⟩ <;> simp at h
  ·refine (q8b (q0q.ext hx2 hd) ht.len (qpa ht)).thenS (Ext.refl _) hl fun m3 h3 _=>⟨_,rfl,h3.keepG (hB.get 2),retB ?_ (hx2.trans h3)⟩
   simp; omega
  ·omega
 simp only [beq_eq_false_iff_ne] at e1
 refine ⟨fun e2=>?_,fun e2=>?_⟩
 ·simp only [Bool.or_eq_true,beq_iff_eq] at e2
  rw [show NumOk im i later ↔ 0<=i.num/\i.num < im.procs.length by rw [NumOk,if_neg e0,if_neg e1,if_pos e2]]
  refine ⟨fun h=>retB ?_ hx2,fun h=>retF ?_ hx2⟩ <;> simp at h
  ·simp; omega
  ·omega
 simp only [Bool.or_eq_false_iff,beq_eq_false_iff_ne] at e2
 replace e2:¬ (i.op=9 \/ i.op=24):=by omega
 refine ⟨fun e3=>?_,fun e3=>?_⟩
 ·simp only [beq_iff_eq] at e3
  rw [show NumOk im i later ↔ 0<=i.num/\∃ q,im.procs[i.num.toNat]?=some q/\q.lent.length=0 by rw [NumOk,if_neg e0,if_neg e1,if_neg e2,if_pos e3]]
  refine ⟨fun h=>⟨fun h1=>?_,fun h1=>?_⟩,fun h=>retF ?_ hx2⟩ <;> simp at h
  ·simp at h1
   obtain ⟨q,hq⟩:=q00 (l:=im.procs) (k:=i.num.toNat) (by omega)
   obtain ⟨a',l',ha',hl',g0,g1,g2⟩:=(SigSl.ext hx2 hf).at' hq
   have:=hl'.len
   refine ⟨by omega,by omega,l',g1,retB ?_ hx2⟩
   simp only [beq_iff_eq]
   refine ⟨fun h2=>⟨h,q,hq,by omega⟩,fun ⟨_,q',h3,h4⟩=>?_⟩
   rw [hq] at h3; simp at h3; subst h3; omega
  ·simp at h1
   exact retF (fun ⟨_,q,h3,_⟩=>by have:=q04 h3; omega) hx2
  ·omega
 simp only [beq_eq_false_iff_ne] at e3
 refine ⟨fun e4=>?_,fun e4=>?_⟩
 ·simp only [beq_iff_eq] at e4
  rw [show NumOk im i later ↔ 0<=i.num/\i.num < 3 by rw [NumOk,if_neg e0,if_neg e1,if_neg e2,if_neg e3,if_pos e4]]
  refine ⟨fun h=>retB ?_ hx2,fun h=>retF ?_ hx2⟩ <;> simp at h
  ·simp; omega
  ·omega
 simp only [beq_eq_false_iff_ne] at e4
 refine ⟨fun e5=>?_,fun e5=>?_⟩
 ·simp only [Bool.or_eq_true,beq_iff_eq] at e5
  rw [show NumOk im i later ↔ later i.num by rw [NumOk,if_neg e0,if_neg e1,if_neg e2,if_neg e3,if_neg e4,if_pos e5]]
  exact ⟨g,rfl,hg,(hlater m2 hx2).thenS (Ext.refl _) hl fun b m3 hb h3 _=>⟨_,rfl,retB hb (hx2.trans h3)⟩⟩
 simp only [Bool.or_eq_false_iff,beq_eq_false_iff_ne] at e5
 replace e5:¬ (i.op=20 \/ i.op=22):=by omega
 refine ⟨fun e6=>?_,fun e6=>?_⟩
 ·simp only [beq_iff_eq] at e6
  rw [show NumOk im i later ↔ 0 < (q1h im.decls i.num).length/\i.jumps.length=(q1h im.decls i.num).length by rw [NumOk,if_neg e0,if_neg e1,if_neg e2,if_neg e3,if_neg e4,if_neg e5,if_pos e6]]
  refine (qao (q0q.ext hx2 hd) ht _).thenS (Ext.refl _) hl ?_
  rintro _ m3 ⟨s,rfl,hs,h3⟩
  have:=hs.len
  refine ⟨h3,_,rfl,fun h=>retB ?_ (hx2.trans h3),fun h=>retF ?_ (hx2.trans h3)⟩ <;> simp at h
  ·simp only [beq_iff_eq]; omega
  ·omega
 ·simp only [beq_eq_false_iff_ne] at e6
  rw [show NumOk im i later ↔ i.num=0 by rw [NumOk,if_neg e0,if_neg e1,if_neg e2,if_neg e3,if_neg e4,if_neg e5,if_neg e6]]
  exact retB (by simp) hx2
def q1p (im:Image) (i:Instr) (lo hi:Int):Prop :=
 if i.op=0 \/ i.op=22 then lo=0/\hi=0
 else if i.op=1 \/ i.op=2 \/ i.op=3 \/ i.op=4 \/ i.op=11 then lo=2/\hi=2
 else if i.op=6 then lo=(q2m im.decls i.num).length/\hi=(q2m im.decls i.num).length
 else if i.op=9 \/ i.op=24 then ∃ q,im.procs[i.num.toNat]?=some q/\lo=q.params.length/\hi=q.params.length
 else if i.op=10 then ∃ q,im.procs[i.num.toNat]?=some q/\lo=(q.params.length:Int) - 1/\hi=(q.params.length:Int) - 1
 else if i.op=16 \/ i.op=17 then lo=1/\hi=4
 else lo=1/\hi=1
theorem qp8 {m:Mem} {d f:Sl} {im:Image} (hd:q0q m d im.decls) (ht:TypesOk im.decls) (hf:SigSl m f im.procs) {i:Instr} {a j:Sl} {later:Int->Prop} (hn:NumOk im i later) :
  q08 Tryz.prog q2p [.agg #[Sl.v d,Sl.v f],.agg #[vi i.op,vi i.dst,vi i.num,vi i.into,Sl.v a,Sl.v j]] m fun v m'=>∃ lo hi:Int,v=.tuple #[vi lo,vi hi]/\q1p im i lo hi/\Ext m m':=by
 apply qal
 simp -zeta only [q0a,q09,rI,rS,rB,cI,cB,cS,dI,dB,dS,gk,rg]
 intro m1 m2
 have hx2:Ext m m2:=((Ext.refl m).pushed _).pushed _
 have hl:∀ b ∈ [m1.size,m.size],b < m2.size:=by simp [m2,m1]; omega
 have hfl:=hf.len
 clear_value m2
 refine ⟨fun e0=>?_,fun e0=>?_⟩
 ·simp only [Bool.or_eq_true,beq_iff_eq] at e0
  exact ⟨_,_,rfl,by rw [q1p,if_pos e0]; exact ⟨rfl,rfl⟩,hx2⟩
 simp only [Bool.or_eq_false_iff,beq_eq_false_iff_ne] at e0
 have e0':¬ (i.op=0 \/ i.op=22):=by omega
 refine ⟨fun e1=>?_,fun e1=>?_⟩
 ·simp only [Bool.or_eq_true,beq_iff_eq] at e1
  exact ⟨_,_,rfl,by rw [q1p,if_neg e0',if_pos e1]; exact ⟨rfl,rfl⟩,hx2⟩
 simp only [Bool.or_eq_false_iff,beq_eq_false_iff_ne] at e1
 have e1':¬ (i.op=1 \/ i.op=2 \/ i.op=3 \/ i.op=4 \/ i.op=11):=by omega
 refine ⟨fun e2=>?_,fun e2=>?_⟩
 ·simp only [beq_iff_eq] at e2
  rw [NumOk,if_neg e0.1,if_pos e2] at hn
  have h12:=fc_12 ht im.decls.length
  rw [fc_all _ _ (Nat.le_refl _)] at h12
  refine (qmu (q0q.ext hx2 hd) ht _ (by omega)).thenS (Ext.refl _) hl ?_
  rintro _ m3 ⟨s,rfl,hs,h3⟩
  have:=hs.len
  exact ⟨h3,_,rfl,_,_,rfl,by rw [q1p,if_neg e0',if_neg e1',if_pos e2]; omega,hx2.trans h3⟩
 simp only [beq_eq_false_iff_ne] at e2
 refine ⟨fun e3=>?_,fun e3=>?_⟩
 ·simp only [Bool.or_eq_true,beq_iff_eq] at e3
  rw [NumOk,if_neg e0.1,if_neg e2,if_pos e3] at hn
  obtain ⟨q,hq⟩:=q00 (l:=im.procs) (k:=i.num.toNat) (by omega)
  obtain ⟨a',l',ha',hl',g0,g1,g2⟩:=(SigSl.ext hx2 hf).at' hq
  have:=ha'.len
  exact ⟨by omega,by omega,a',g0,_,_,rfl,by rw [q1p,if_neg e0',if_neg e1',if_neg e2,if_pos e3]; exact ⟨q,hq,by omega,by omega⟩,hx2⟩
 simp only [Bool.or_eq_false_iff,beq_eq_false_iff_ne] at e3
 have e3':¬ (i.op=9 \/ i.op=24):=by omega
 refine ⟨fun e4=>?_,fun e4=>?_⟩
 ·simp only [beq_iff_eq] at e4
  rw [NumOk,if_neg e0.1,if_neg e2,if_neg e3',if_pos e4] at hn
  obtain ⟨h0,q,hq,_⟩:=hn
  obtain ⟨a',l',ha',hl',g0,g1,g2⟩:=(SigSl.ext hx2 hf).at' hq
  have:=ha'.len
  have:=ha'.lim
  have:=q04 hq
  have e:w64 ((a'.len:Int) - 1)=(q.params.length:Int) - 1:=by rw [q07 (by omega) (by omega)]; omega
  exact ⟨by omega,by omega,a',g0,_,_,rfl,by rw [q1p,if_neg e0',if_neg e1',if_neg e2,if_neg e3',if_pos e4]; exact ⟨q,hq,e,e⟩,hx2⟩
 simp only [beq_eq_false_iff_ne] at e4
 refine ⟨fun e5=>?_,fun e5=>?_⟩
 ·simp only [Bool.or_eq_true,beq_iff_eq] at e5
  exact ⟨_,_,rfl,by rw [q1p,if_neg e0',if_neg e1',if_neg e2,if_neg e3',if_neg e4,if_pos e5]; exact ⟨rfl,rfl⟩,hx2⟩
 ·simp only [Bool.or_eq_false_iff,beq_eq_false_iff_ne] at e5
  have e5':¬ (i.op=16 \/ i.op=17):=by omega
  exact ⟨_,_,rfl,by rw [q1p,if_neg e0',if_neg e1',if_neg e2,if_neg e3',if_neg e4,if_neg e5']; exact ⟨rfl,rfl⟩,hx2⟩
end
section
theorem qea {m:Mem} {x k:Int} {b0 b1:Nat} {c:Sl} (h0:gcell m b0 0=some (vi k)) (h1:gcell m b1 4=some (Sl.v c)) :
  q0o Tryz.prog q0v [vi x,vp b0 0,vp b1 0] m (k+1<=x/\x<=(c.len:Int) - 1):=by
 apply q7l x (b0,0) (b1,0)
 refine ⟨k,h0,fun h=>⟨c,h1,retB ?_ (Ext.refl _)⟩,fun h=>retF ?_ (Ext.refl _)⟩ <;> simp at h
 ·simp; omega
 ·omega
theorem qol {m:Mem} {x k:Int} {b0 b1 b2:Nat} {c:Sl} (h0:gcell m b0 0=some (vi k)) (h1:gcell m b1 4=some (Sl.v c))
  (h2:gcell m b2 0=some (.func (.func q0v) #[] #[vp b0 0,vp b1 0])) :
  q0o Tryz.prog q1j [vi x,vp b2 0] m (¬ (k+1<=x/\x<=(c.len:Int) - 1)):=by
 apply q7h x (b2,0)
 refine ⟨(.func q0v,#[],#[vp b0 0,vp b1 0]),h2,_,rfl,rfl,?_⟩
 refine (qea h0 h1).then fun b m1 hb hx=>⟨_,rfl,retB ?_ hx⟩
 rw [← hb]; simp
theorem qlw {im:Image} {p:Proc} {k:Nat} {i:Instr} (hr:p.regs<=2000) (hp4:im.procs.length<=4) (h3:∀ q ∈ im.procs,q.params.length<=3) :
  InstrOk im p k i ↔ ((0<=i.op/\i.op<=24/\i.op ≠ 7/\i.op ≠ 8/\i.op ≠ 12/\i.op ≠ 13)/\(0<=i.dst/\i.dst < p.regs/\(i.dst=0 \/ Sets i.op)/\0<=i.into/\i.into<=p.regs/\(i.into=0 \/ i.op=6)) /\
   (∀ a ∈ i.args,0<=a/\a < p.regs)/\(i.jumps.length=0 \/ i.op=21)/\(∀ t ∈ i.jumps,(k:Int)+1<=t/\t<=(p.code.length:Int) - 1) /\
   NumOk im i (fun t=>(k:Int)+1<=t/\t<=(p.code.length:Int) - 1)/\∀ lo hi,q1p im i lo hi->lo<=i.args.length/\(i.args.length:Int)<=hi):=by
 have hpos:(0<=i.dst/\i.dst < p.regs)->0 < p.regs:=fun h=>by omega
 constructor
 ·intro h
  have hop:=h.op
  have hd:=h.dst
  have hargs:∀ a ∈ i.args,0<=a/\a < p.regs:=fun a ha=>by have:=h.args a ha; omega
  have hj0:i.op ≠ 21->∀ t ∈ i.jumps,(k:Int)+1<=t/\t<=(p.code.length:Int) - 1:=fun hne t ht=>by
   rcases h.jumps with h5 | h5
   ·exact absurd h5 hne
   ·rw [List.length_eq_zero_iff.1 h5] at ht; cases ht
  have hjj:i.jumps.length=0 \/ i.op=21:=h.jumps.symm
  have hd':0<=i.dst/\i.dst < p.regs:=by omega
  have fin:∀ (_:0<=i.op/\i.op<=24/\i.op ≠ 7/\i.op ≠ 8/\i.op ≠ 12/\i.op ≠ 13) (_:0<=i.into/\i.into<=p.regs) (_:∀ t ∈ i.jumps,(k:Int)+1<=t/\t<=(p.code.length:Int) - 1)
   (_:NumOk im i (fun t=>(k:Int)+1<=t/\t<=(p.code.length:Int) - 1)) (_:∀ lo hi,q1p im i lo hi->lo<=i.args.length/\(i.args.length:Int)<=hi),_ :=
   fun h1 h2 h3 h4 h5=>(⟨h1,⟨hd'.1,hd'.2,h.dst0,h2.1,h2.2,h.into⟩,hargs,hjj,h3,h4,h5⟩:(0<=i.op/\i.op<=24/\i.op ≠ 7/\i.op ≠ 8/\i.op ≠ 12/\i.op ≠ 13)/\(0<=i.dst/\i.dst < p.regs/\(i.dst=0 \/ Sets i.op)/\0<=i.into/\i.into<=p.regs/\(i.into=0 \/ i.op=6)) /\
   (∀ a ∈ i.args,0<=a/\a < p.regs)/\(i.jumps.length=0 \/ i.op=21)/\(∀ t ∈ i.jumps,(k:Int)+1<=t/\t<=(p.code.length:Int) - 1) /\
   NumOk im i (fun t=>(k:Int)+1<=t/\t<=(p.code.length:Int) - 1)/\∀ lo hi,q1p im i lo hi->lo<=i.args.length/\(i.args.length:Int)<=hi)
  have hin0:i.op ≠ 6->0<=i.into/\i.into<=p.regs:=fun hne=>by rcases h.into with h5 | h5 <;> omega
  unfold OpOk at hop
  by_cases e0:i.op=0
  ·rw [if_pos e0] at hop
   refine fin (by omega) (hin0 (by omega)) (hj0 (by omega)) (by rw [NumOk,if_pos e0]; exact hop.2) (fun lo hi ha=>?_)
   rw [q1p,if_pos (Or.inl e0)] at ha; omega
  rw [if_neg e0] at hop
  by_cases e1:i.op=1 \/ i.op=2 \/ i.op=3 \/ i.op=4 \/ i.op=11
  ·rw [if_pos e1] at hop
   refine fin (by omega) (hin0 (by omega)) (hj0 (by omega)) ?_ (fun lo hi ha=>?_)
   ·rw [NumOk,if_neg e0,if_neg (by omega),if_neg (by omega),if_neg (by omega),if_neg (by omega),if_neg (by omega),if_neg (by omega)]; exact hop.2
   ·rw [q1p,if_neg (by omega),if_pos e1] at ha; omega
  rw [if_neg e1] at hop
  by_cases e2:i.op=5 \/ i.op=14 \/ i.op=15 \/ i.op=18 \/ i.op=23
  ·rw [if_pos e2] at hop
   refine fin (by omega) (hin0 (by omega)) (hj0 (by omega)) ?_ (fun lo hi ha=>?_)
   ·rw [NumOk,if_neg e0,if_neg (by omega),if_neg (by omega),if_neg (by omega),if_neg (by omega),if_neg (by omega),if_neg (by omega)]; exact hop.2
   ·rw [q1p,if_neg (by omega),if_neg e1,if_neg (by omega),if_neg (by omega),if_neg (by omega),if_neg (by omega)] at ha; omega
  rw [if_neg e2] at hop
  by_cases e3:i.op=6
  ·rw [if_pos e3] at hop
   refine fin (by omega) hop.2.2 (hj0 (by omega)) ?_ (fun lo hi ha=>?_)
   ·rw [NumOk,if_neg e0,if_pos e3]; exact hop.1
   ·rw [q1p,if_neg (by omega),if_neg e1,if_pos e3] at ha; omega
  rw [if_neg e3] at hop
  by_cases e4:i.op=9 \/ i.op=24
  ·rw [if_pos e4] at hop
   obtain ⟨q,h5,h6,h7⟩:=hop
   have:=q04 h6
   refine fin (by omega) (hin0 (by omega)) (hj0 (by omega)) ?_ (fun lo hi ha=>?_)
   ·rw [NumOk,if_neg e0,if_neg e3,if_pos e4]; omega
   ·rw [q1p,if_neg (by omega),if_neg e1,if_neg e3,if_pos e4] at ha
    obtain ⟨q',h8,h9,h10⟩:=ha
    rw [h6] at h8; simp at h8; subst h8; omega
  rw [if_neg e4] at hop
  by_cases e5:i.op=10
  ·rw [if_pos e5] at hop
   obtain ⟨⟨q,h5,h6,h7⟩,h8⟩:=hop
   have:=q04 h6
   refine fin (by omega) (hin0 (by omega)) (hj0 (by omega)) ?_ (fun lo hi ha=>?_)
   ·rw [NumOk,if_neg e0,if_neg e3,if_neg e4,if_pos e5]; exact ⟨h5,q,h6,h8 q h6⟩
   ·rw [q1p,if_neg (by omega),if_neg e1,if_neg e3,if_neg e4,if_pos e5] at ha
    obtain ⟨q',h8,h9,h10⟩:=ha
    rw [h6] at h8; simp at h8; subst h8; omega
  rw [if_neg e5] at hop
  by_cases e6:i.op=16 \/ i.op=17
  ·rw [if_pos e6] at hop
   refine fin (by omega) (hin0 (by omega)) (hj0 (by omega)) ?_ (fun lo hi ha=>?_)
   ·rw [NumOk,if_neg e0,if_neg e3,if_neg e4,if_neg e5,if_neg (by omega),if_neg (by omega),if_neg (by omega)]; exact hop.2
   ·rw [q1p,if_neg (by omega),if_neg e1,if_neg e3,if_neg e4,if_neg e5,if_pos e6] at ha; omega
  rw [if_neg e6] at hop
  by_cases e7:i.op=19
  ·rw [if_pos e7] at hop
   refine fin (by omega) (hin0 (by omega)) (hj0 (by omega)) ?_ (fun lo hi ha=>?_)
   ·rw [NumOk,if_neg e0,if_neg e3,if_neg e4,if_neg e5,if_pos e7]; omega
   ·rw [q1p,if_neg (by omega),if_neg e1,if_neg e3,if_neg e4,if_neg e5,if_neg e6] at ha; omega
  rw [if_neg e7] at hop
  by_cases e8:i.op=20
  ·rw [if_pos e8] at hop
   refine fin (by omega) (hin0 (by omega)) (hj0 (by omega)) ?_ (fun lo hi ha=>?_)
   ·rw [NumOk,if_neg e0,if_neg e3,if_neg e4,if_neg e5,if_neg e7,if_pos (Or.inl e8)]; exact hop.2
   ·rw [q1p,if_neg (by omega),if_neg e1,if_neg e3,if_neg e4,if_neg e5,if_neg e6] at ha; omega
  rw [if_neg e8] at hop
  by_cases e9:i.op=22
  ·rw [if_pos e9] at hop
   refine fin (by omega) (hin0 (by omega)) (hj0 (by omega)) ?_ (fun lo hi ha=>?_)
   ·rw [NumOk,if_neg e0,if_neg e3,if_neg e4,if_neg e5,if_neg e7,if_pos (Or.inr e9)]; exact hop.2
   ·rw [q1p,if_pos (Or.inr e9)] at ha; omega
  rw [if_neg e9] at hop
  by_cases e10:i.op=21
  ·rw [if_pos e10] at hop
   refine fin (by omega) (hin0 (by omega)) hop.2.2.2 ?_ (fun lo hi ha=>?_)
   ·rw [NumOk,if_neg e0,if_neg e3,if_neg e4,if_neg e5,if_neg e7,if_neg (by omega),if_pos e10]
    have:=hop.2.2.1
    exact ⟨hop.2.1,by omega⟩
   ·rw [q1p,if_neg (by omega),if_neg e1,if_neg e3,if_neg e4,if_neg e5,if_neg e6] at ha; omega
  rw [if_neg e10] at hop
  exact hop.elim
 ·rintro ⟨h1,h2,hargs,hjj,hjs,hnum,hA⟩
  refine ⟨fun a ha=>by have:=hargs a ha; omega,by omega,h2.2.2.1,h2.2.2.2.2.2,hjj.symm,?_⟩
  unfold OpOk
  by_cases e0:i.op=0
  ·rw [if_pos e0]
   rw [NumOk,if_pos e0] at hnum
   have:=hA 0 0 (by rw [q1p,if_pos (Or.inl e0)]; exact ⟨rfl,rfl⟩)
   exact ⟨by omega,hnum⟩
  rw [if_neg e0]
  by_cases e1:i.op=1 \/ i.op=2 \/ i.op=3 \/ i.op=4 \/ i.op=11
  ·rw [if_pos e1]
   rw [NumOk,if_neg e0,if_neg (by omega),if_neg (by omega),if_neg (by omega),if_neg (by omega),if_neg (by omega),if_neg (by omega)] at hnum
   have:=hA 2 2 (by rw [q1p,if_neg (by omega),if_pos e1]; exact ⟨rfl,rfl⟩)
   exact ⟨by omega,hnum⟩
  rw [if_neg e1]
  by_cases e2:i.op=5 \/ i.op=14 \/ i.op=15 \/ i.op=18 \/ i.op=23
  ·rw [if_pos e2]
   rw [NumOk,if_neg e0,if_neg (by omega),if_neg (by omega),if_neg (by omega),if_neg (by omega),if_neg (by omega),if_neg (by omega)] at hnum
   have:=hA 1 1 (by rw [q1p,if_neg (by omega),if_neg e1,if_neg (by omega),if_neg (by omega),if_neg (by omega),if_neg (by omega)]; exact ⟨rfl,rfl⟩)
   exact ⟨by omega,hnum⟩
  rw [if_neg e2]
  by_cases e3:i.op=6
  ·rw [if_pos e3]
   rw [NumOk,if_neg e0,if_pos e3] at hnum
   have:=hA _ _ (by rw [q1p,if_neg (by omega),if_neg e1,if_pos e3]; exact ⟨rfl,rfl⟩)
   exact ⟨hnum,by omega,by omega⟩
  rw [if_neg e3]
  by_cases e4:i.op=9 \/ i.op=24
  ·rw [if_pos e4]
   rw [NumOk,if_neg e0,if_neg e3,if_pos e4] at hnum
   obtain ⟨q,hq⟩:=q00 (l:=im.procs) (k:=i.num.toNat) (by omega)
   have:=hA _ _ (by rw [q1p,if_neg (by omega),if_neg e1,if_neg e3,if_pos e4]; exact ⟨q,hq,rfl,rfl⟩)
   exact ⟨q,hnum.1,hq,by omega⟩
  rw [if_neg e4]
  by_cases e5:i.op=10
  ·rw [if_pos e5]
   rw [NumOk,if_neg e0,if_neg e3,if_neg e4,if_pos e5] at hnum
   obtain ⟨h5,q,hq,h6⟩:=hnum
   have:=hA _ _ (by rw [q1p,if_neg (by omega),if_neg e1,if_neg e3,if_neg e4,if_pos e5]; exact ⟨q,hq,rfl,rfl⟩)
   refine ⟨⟨q,h5,hq,by omega⟩,fun q' hq'=>?_⟩
   rw [hq] at hq'; simp at hq'; subst hq'; exact h6
  rw [if_neg e5]
  by_cases e6:i.op=16 \/ i.op=17
  ·rw [if_pos e6]
   rw [NumOk,if_neg e0,if_neg e3,if_neg e4,if_neg e5,if_neg (by omega),if_neg (by omega),if_neg (by omega)] at hnum
   have:=hA 1 4 (by rw [q1p,if_neg (by omega),if_neg e1,if_neg e3,if_neg e4,if_neg e5,if_pos e6]; exact ⟨rfl,rfl⟩)
   exact ⟨by omega,hnum⟩
  have hA1:i.op ≠ 22->∀ (e0:¬ i.op=0) (e1:¬ (i.op=1 \/ i.op=2 \/ i.op=3 \/ i.op=4 \/ i.op=11)) (e3:¬ i.op=6) (e4:¬ (i.op=9 \/ i.op=24)) (e5:¬ i.op=10) (e6:¬ (i.op=16 \/ i.op=17)),i.args.length=1:=fun h22 e0 e1 e3 e4 e5 e6=>by
   have:=hA 1 1 (by rw [q1p,if_neg (by omega),if_neg e1,if_neg e3,if_neg e4,if_neg e5,if_neg e6]; exact ⟨rfl,rfl⟩)
   omega
  rw [if_neg e6]
  by_cases e7:i.op=19
  ·rw [if_pos e7]
   rw [NumOk,if_neg e0,if_neg e3,if_neg e4,if_neg e5,if_pos e7] at hnum
   exact ⟨hA1 (by omega) e0 e1 e3 e4 e5 e6,by omega,by omega⟩
  rw [if_neg e7]
  by_cases e8:i.op=20
  ·rw [if_pos e8]
   rw [NumOk,if_neg e0,if_neg e3,if_neg e4,if_neg e5,if_neg e7,if_pos (Or.inl e8)] at hnum
   exact ⟨hA1 (by omega) e0 e1 e3 e4 e5 e6,hnum⟩
  rw [if_neg e8]
  by_cases e9:i.op=22
  ·rw [if_pos e9]
   rw [NumOk,if_neg e0,if_neg e3,if_neg e4,if_neg e5,if_neg e7,if_pos (Or.inr e9)] at hnum
   have:=hA 0 0 (by rw [q1p,if_pos (Or.inr e9)]; exact ⟨rfl,rfl⟩)
   exact ⟨by omega,hnum⟩
  rw [if_neg e9]
  by_cases e10:i.op=21
  ·rw [if_pos e10]
   rw [NumOk,if_neg e0,if_neg e3,if_neg e4,if_neg e5,if_neg e7,if_neg (by omega),if_pos e10] at hnum
   exact ⟨hA1 (by omega) e0 e1 e3 e4 e5 e6,hnum.1,by omega,hjs⟩
  rw [if_neg e10]
  omega
end
section
theorem qic {m:Mem} {d f a l c:Sl} {im:Image} (hd:q0q m d im.decls) (ht:TypesOk im.decls) (hf:SigSl m f im.procs) (hp4:im.procs.length<=4) (h3:∀ q ∈ im.procs,q.params.length<=3)
  {q:Proc} (hc:q1c m c q.code) (hr:q.regs<=2000) {k:Nat} {i:Instr} {xa xj:Sl} (ha:q03 m xa i.args) (hj:q03 m xj i.jumps) :
  q0o Tryz.prog q3u [.agg #[Sl.v d,Sl.v f],.agg #[Sl.v a,Sl.v l,vi q.result,vi q.regs,Sl.v c],vi k,.agg #[vi i.op,vi i.dst,vi i.num,vi i.into,Sl.v xa,Sl.v xj]] m (InstrOk im q k i):=by
 apply q8q
 simp -zeta only [q0a,q09,rI,rS,rB,cI,cB,cS,dI,dB,dS,gk,rg]
 intro m1 m2 m3 m4
 have s1:m1.size=m.size+1:=by simp [m1]
 have s2:m2.size=m.size+2:=by simp [m2,s1]
 have s3:m3.size=m.size+3:=by simp [m3,s2]
 have s4:m4.size=m.size+4:=by simp [m4,s3]
 have hx4:Ext m m4:=((((Ext.refl m).pushed _).pushed _).pushed _).pushed _
 have hbk:Blk m4 m2.size ty_int [.i k]:=(Blk.push m2 _ _).ext (Ext.push _ _)
 have hbp:Blk m4 m1.size q9h [.s a,.s l,.i q.result,.i q.regs,.s c]:=(Blk.push m1 _ _).ext ((Ext.push m2 _).pushed _)
 have hiff:=qlw (im:=im) (p:=q) (k:=k) (i:=i) hr hp4 h3
 have hcl:=hc.len
 have hal:=ha.len
 have hjl:=hj.len
 clear_value m4
 clear_value m3
 clear_value m2
 clear_value m1
 refine ⟨fun h=>retF (fun ho=>?_) hx4,fun c0=>⟨fun h=>retF (fun ho=>?_) hx4,fun c1=>⟨fun h=>retF (fun ho=>?_) hx4,fun c2=>⟨fun h=>retF (fun ho=>?_) hx4,fun c3=>⟨fun h=>retF (fun ho=>?_) hx4,fun c4=>⟨fun h=>retF (fun ho=>?_) hx4,fun c5=>?_⟩⟩⟩⟩⟩⟩
 any_goals (have:=(hiff.1 ho).1; simp at h; omega)
 simp at c0 c1 c2 c3 c4 c5
 have f1:0<=i.op/\i.op<=24/\i.op ≠ 7/\i.op ≠ 8/\i.op ≠ 12/\i.op ≠ 13:=by omega
 refine ⟨fun m5=>Ext m4 m5/\(0<=i.dst/\i.dst < q.regs/\(i.dst=0 \/ Sets i.op)/\0<=i.into/\i.into<=q.regs/\(i.into=0 \/ i.op=6)),?_,?_⟩
 ·refine ⟨fun h=>retF (fun ho=>?_) hx4,fun c6=>⟨fun h=>retF (fun ho=>?_) hx4,fun c7=>?_⟩⟩
  ·have:=(hiff.1 ho).2.1; simp at h; omega
  ·have:=(hiff.1 ho).2.1; simp at h; omega
  simp at c6 c7
  have tail:∀ m5,Ext m4 m5->(i.dst=0 \/ Sets i.op)->((decide (i.into < (0:Int)))=true->∃ b':Bool,Value.bool false=.bool b'/\(b'=true ↔ InstrOk im q k i)/\Ext m m5)/\((decide (i.into < (0:Int)))=false ->
    ((decide (i.into > q.regs))=true->∃ b':Bool,Value.bool false=.bool b'/\(b'=true ↔ InstrOk im q k i)/\Ext m m5)/\((decide (i.into > q.regs))=false ->
    ((i.into != (0:Int))=true->((i.op != (6:Int))=true->∃ b':Bool,Value.bool false=.bool b'/\(b'=true ↔ InstrOk im q k i)/\Ext m m5)/\((i.op != (6:Int))=false->Ext m4 m5/\(0<=i.dst/\i.dst < q.regs/\(i.dst=0 \/ Sets i.op)/\0<=i.into/\i.into<=q.regs/\(i.into=0 \/ i.op=6)))) /\
    ((i.into != (0:Int))=false->Ext m4 m5/\(0<=i.dst/\i.dst < q.regs/\(i.dst=0 \/ Sets i.op)/\0<=i.into/\i.into<=q.regs/\(i.into=0 \/ i.op=6))))):=by
   intro m5 h5 hs
   have hx5:=hx4.trans h5
   refine ⟨fun h=>retF (fun ho=>?_) hx5,fun c8=>⟨fun h=>retF (fun ho=>?_) hx5,fun c9=>⟨fun c10=>⟨fun h=>retF (fun ho=>?_) hx5,fun c11=>⟨h5,?_⟩⟩,fun c10=>⟨h5,?_⟩⟩⟩⟩
   ·have:=(hiff.1 ho).2.1; simp at h; omega
   ·have:=(hiff.1 ho).2.1; simp at h; omega
   ·have:=(hiff.1 ho).2.1.2.2.2.2.2; simp at h c10; omega
   ·simp at c8 c9 c11; exact ⟨c6,c7,hs,c8,c9,Or.inr c11⟩
   ·simp at c8 c9 c10; exact ⟨c6,c7,hs,c8,c9,Or.inl c10⟩
  refine ⟨fun h=>?_,fun h=>tail m4 (Ext.refl _) (Or.inl (by simpa using h))⟩
  refine (q9m i.op m4 ⟨by omega,by omega⟩).thenS (Ext.refl _) (by simp; omega) fun b m5 hb h5 _=>⟨b,rfl,fun h6=>retF (fun ho=>?_) (hx4.trans h5),fun h6=>tail m5 h5 (Or.inr (yb hb h6))⟩
  have:=(hiff.1 ho).2.1.2.2.1
  simp at h
  rcases this with h7 | h7
  ·exact h h7
  ·exact nb hb h6 h7
 ·rintro m5 ⟨h5,f2⟩
  refine forI (n:=i.args.length) (by have:=ha.lim; omega) (fun n m'=>Ext m4 m'/\∀ x ∈ i.args.take n,0<=x/\x < q.regs) ⟨h5,by simp⟩ ?_
  rintro n m6 I μ hn ⟨h6,hall⟩ next
  have hx6:=hx4.trans h6
  refine ⟨fun h=>?_,fun h=>?_⟩
  ·simp only [decide_eq_true_eq] at h
   obtain ⟨x,hx⟩:=q00 (l:=i.args) (k:=n) (by omega)
   refine ⟨by omega,by omega,x,by simpa using (ha.ext hx6).at' hx,fun h7=>retF (fun ho=>?_) hx6,fun h7=>⟨fun h8=>retF (fun ho=>?_) hx6,fun h8=>next (by omega) _ ⟨h6,q0f hx hall ?_⟩⟩⟩
   ·have:=(hiff.1 ho).2.2.1 x (q05 hx); simp at h7; omega
   ·have:=(hiff.1 ho).2.2.1 x (q05 hx); simp at h8; omega
   ·simp at h7 h8; omega
  ·simp only [decide_eq_false_iff_not] at h
   have hargs:∀ x ∈ i.args,0<=x/\x < q.regs:=q0w (by omega) hall
   intro m7 m8
   have s8:m8.size=m6.size+1:=by simp [m8,m7,q02]
   have h8:Ext m6 m8:=((Ext.refl m6).pushed _).scells (Nat.le_refl _) _ _
   have hx8:=hx6.trans h8
   have hb8:gcell m8 m6.size 0=some (.func (.func q0v) #[] #[vp m2.size 0,vp m1.size 0]) :=
    (Blk.scells (m:=m7) (o:=0) (r:=[.fn (.func q0v) #[] #[vp m2.size 0,vp m1.size 0]]) (Blk.push m6 _ _)).get 0
   have hsz:=h6.size
   clear_value m8
   have later:∀ m9,Ext m8 m9->∀ t,q0o Tryz.prog q0v [vi t,vp m2.size 0,vp m1.size 0] m9 ((k:Int)+1<=t/\t<=(q.code.length:Int) - 1):=fun m9 h9 t=>by
    rw [← hcl]
    exact qea (hbk.ext (h6.trans (h8.trans h9)) |>.get 0) (hbp.ext (h6.trans (h8.trans h9)) |>.get 4)
   have rest:(i.jumps.length=0 \/ i.op=21)->q08 Tryz.prog q12 [Sl.v xj,.func (.func q1j) #[] #[vp m6.size 0]] m8 fun r_1 m1_9 =>
     Sam [m3.size,m.size] m8 m1_9/\∃ r115:Bool,r_1=vb r115/\(r115=true->∃ b':Bool,Value.bool false=.bool b'/\(b'=true ↔ InstrOk im q k i)/\Ext m m1_9) /\
     (r115=false->∃ v119:Fn × Array Value × Array Value,gcell m1_9 m6.size 0=some (.func v119.1 v119.2.1 v119.2.2) /\
     q08 Tryz.prog q2e [.agg #[Sl.v d,Sl.v f],.agg #[vi i.op,vi i.dst,vi i.num,vi i.into,Sl.v xa,Sl.v xj],.func v119.1 v119.2.1 v119.2.2] m1_9 fun r_2 m1_10 =>
     Sam [m3.size,m.size] m1_9 m1_10/\∃ r120:Bool,r_2=vb r120/\((!r120)=true->∃ b':Bool,Value.bool false=.bool b'/\(b'=true ↔ InstrOk im q k i)/\Ext m m1_10) /\
     ((!r120)=false->q08 Tryz.prog q2p [.agg #[Sl.v d,Sl.v f],.agg #[vi i.op,vi i.dst,vi i.num,vi i.into,Sl.v xa,Sl.v xj]] m1_10 fun r_3 m1_11 =>
     Sam [m3.size,m.size] m1_10 m1_11/\∃ r125:Int,∃ r125_1:Int,r_3=.tuple #[vi r125,vi r125_1] /\
     ((decide ((xa.len:Int) ≥ r125))=true->∃ b':Bool,Value.bool (decide ((xa.len:Int)<=r125_1))=.bool b'/\(b'=true ↔ InstrOk im q k i)/\Ext m m1_11) /\
     ((decide ((xa.len:Int) ≥ r125))=false->∃ b':Bool,Value.bool false=.bool b'/\(b'=true ↔ InstrOk im q k i)/\Ext m m1_11))):=by
    intro hj0
    have hl:∀ b ∈ [m3.size,m.size],b < m8.size:=by simp; omega
    refine (q37 (hj.ext hx8) q1j #[] #[vp m6.size 0] (by decide) (fun t=>¬ ((k:Int)+1<=t/\t<=(c.len:Int) - 1)) (fun t _ m9 h9=>?_)).thenS (Ext.refl _) hl ?_
    ·exact qol (hbk.ext (h6.trans (h8.trans h9)) |>.get 0) (hbp.ext (h6.trans (h8.trans h9)) |>.get 4) (h9.gcell hb8)
    intro b m9 hb h9 _
    have hx9:=hx8.trans h9
    refine ⟨b,rfl,fun hbt=>retF (fun ho=>?_) hx9,fun hbf=>?_⟩
    ·obtain ⟨t,ht1,ht2⟩:=hb.1 hbt
     have:=(hiff.1 ho).2.2.2.2.1 t ht1
     exact ht2 (by omega)
    have hjs:∀ t ∈ i.jumps,(k:Int)+1<=t/\t<=(q.code.length:Int) - 1:=fun t ht1=>by
     rcases Classical.em ((k:Int)+1<=t/\t<=(c.len:Int) - 1) with h | h
     ·omega
     ·exact absurd (hb.2 ⟨t,ht1,h⟩) (by simp [hbf])
    refine ⟨(.func q0v,#[],#[vp m2.size 0,vp m1.size 0]),h9.gcell hb8,?_⟩
    have hl9:∀ b ∈ [m3.size,m.size],b < m9.size:=fun b hb=>h9.lt (hl b hb)
    refine (qmw (q0q.ext hx9 hd) ht (SigSl.ext hx9 hf) (ha.ext hx9) (hj.ext hx9) q0v #[] #[vp m2.size 0,vp m1.size 0] (by decide) (fun t=>(k:Int)+1<=t/\t<=(q.code.length:Int) - 1) (fun m' h'=>by simpa using later m' (h9.trans h') i.num)).thenS (Ext.refl _) hl9 ?_
    intro b2 m10 hb2 h10 _
    have hx10:=hx9.trans h10
    refine ⟨b2,rfl,fun h=>retF (fun ho=>nb hb2 h (hiff.1 ho).2.2.2.2.2.1) hx10,fun h=>?_⟩
    have hnum:=yb hb2 h
    have hl10:∀ b ∈ [m3.size,m.size],b < m10.size:=fun b hb=>h10.lt (hl9 b hb)
    refine (qp8 (q0q.ext hx10 hd) ht (SigSl.ext hx10 hf) (a:=xa) (j:=xj) hnum).thenS (Ext.refl _) hl10 ?_
    rintro _ m11 ⟨lo,hi,rfl,hA,h11⟩
    have hx11:=hx10.trans h11
    have huniq:∀ lo' hi',q1p im i lo' hi'->lo'=lo/\hi'=hi:=fun lo' hi' h'=>by
     unfold q1p at hA h'
     repeat' (split at hA)
     all_goals simp_all
     all_goals (obtain ⟨q1,e1,e2,e3⟩:=hA; simp_all)
    refine ⟨h11,lo,hi,rfl,fun h=>retB ?_ hx11,fun h=>retF (fun ho=>?_) hx11⟩
    ·rw [hiff]
     simp only [decide_eq_true_eq] at h ⊢
     refine ⟨fun h'=>⟨f1,f2,hargs,hj0,hjs,hnum,fun lo' hi' h2=>?_⟩,fun h'=>?_⟩
     ·obtain ⟨rfl,rfl⟩:=huniq lo' hi' h2; omega
     ·have:=h'.2.2.2.2.2.2 lo hi hA; omega
    ·have:=(hiff.1 ho).2.2.2.2.2.2 lo hi hA
     simp at h; omega
   refine ⟨fun h9=>⟨fun h10=>retF (fun ho=>?_) hx8,fun h10=>rest (Or.inr (by simpa using h10))⟩,fun h9=>rest (Or.inl (by simp at h9; omega))⟩
   have:=(hiff.1 ho).2.2.2.1
   simp at h9 h10; omega
theorem qis {m:Mem} {d p:Sl} {im:Image} (h:ImageR m d p im):q0o Tryz.prog q76 [.agg #[Sl.v d,Sl.v p]] m (ImageOk im):=by
 apply qfa
 simp -zeta only [q0a,q09,rI,rS,rB,cI,cB,cS,dI,dB,dS,gk,rg]
 intro m1
 have hx1:Ext m m1:=(Ext.refl m).pushed _
 have s1:m1.size=m.size+1:=by simp [m1]
 clear_value m1
 refine (ql8 (h.ext hx1)).thenS (Ext.refl _) (by simp; omega) ?_
 rintro _ m2 ⟨d',f,b,rfl,hb,hok,h2⟩
 refine ⟨h2,d',f,b,rfl,?_⟩
 intro m3 m4
 have s4:m4.size=m2.size+1:=by simp [m4,m3,q02]
 have h4:Ext m2 m4:=((Ext.refl m2).pushed _).scells (Nat.le_refl _) _ _
 have hx4:Ext m m4:=(hx1.trans h2).trans h4
 have:=h2.size
 have hpl:=h.procs.len
 have hplim:=h.procs.lim
 clear_value m4
 refine ⟨fun hn=>retF (fun ho=>nb hb hn ⟨ho.sigs,fun q hq=>(ho.each q hq).lent⟩) hx4,fun hy=>?_⟩
 obtain ⟨hsig,hlent⟩:=yb hb hy
 obtain ⟨rfl,hf⟩:=hok (by simpa using hy)
 refine forI (n:=im.procs.length) (by omega) (fun n m'=>Ext m4 m'/\∀ q ∈ im.procs.take n,ProcOk im q) ⟨Ext.refl _,by simp⟩ ?_
 rintro n m5 I μ hn ⟨h5,hall⟩ next
 have hx5:=hx4.trans h5
 refine ⟨fun hlt=>?_,fun hge=>?_⟩
 ·simp only [decide_eq_true_eq] at hlt
  obtain ⟨q,hq⟩:=q00 (l:=im.procs) (k:=n) (by omega)
  obtain ⟨a,l,c,ha,hl,hc,g0,g1,g2,g3,g4⟩:=(h.ext hx5).procs.at' hq
  refine ⟨by omega,by omega,a,by simpa using g0,l,by simpa using g1,_,by simpa using g2,_,by simpa using g3,c,by simpa using g4,?_⟩
  intro m6 m7
  have s7:m7.size=m5.size+1:=by simp [m7,m6,q02]
  have h7:Ext m5 m7:=((Ext.refl m5).pushed _).scells (Nat.le_refl _) _ _
  have hx7:=hx5.trans h7
  have hal:=ha.len
  have hcl:=hc.len
  have hclim:=hc.lim
  have hqm:=q05 hq
  clear_value m7
  refine ⟨fun e=>retF (fun ho=>?_) hx7,fun e1=>⟨fun e=>retF (fun ho=>?_) hx7,fun e2=>⟨fun e=>retF (fun ho=>?_) hx7,fun e3=>⟨fun e=>retF (fun ho=>?_) hx7,fun e4=>?_⟩⟩⟩⟩
  ·have:=(ho.each q hqm).regs; simp at e; split at e <;> omega
  ·have:=(ho.each q hqm).regs; simp at e; omega
  ·have:=(ho.each q hqm).len; simp at e; omega
  ·have:=(ho.each q hqm).len; simp at e; omega
  have hreg:(q.params.length:Int)<=q.regs/\1<=q.regs/\q.regs<=2000:=by
   simp at e1 e2; split at e1 <;> omega
  have hlen:1<=q.code.length/\q.code.length<=2000:=by simp at e3 e4; omega
  obtain ⟨i0,hi0⟩:=q00 (l:=q.code) (k:=q.code.length - 1) (by omega)
  obtain ⟨a0,j0,_,_,k0,_⟩:=(q1c.ext h7 hc).at' hi0
  refine ⟨fun m'=>Ext m7 m'/\(i0.op=23 \/ i0.op=24),?_,?_⟩
  ·have e:w64 ((c.len:Int) - 1)=((q.code.length - 1:Nat):Int):=by rw [q07 (by omega) (by omega)]; omega
   rw [e]
   refine ⟨by omega,by omega,i0.op,by simpa using k0,fun e5=>⟨fun e6=>retF (fun ho=>?_) hx7,fun e6=>⟨Ext.refl _,Or.inr (by simpa using e6)⟩⟩,fun e5=>⟨Ext.refl _,Or.inl (by simpa using e5)⟩⟩
   have:=(ho.each q hqm).last i0 hi0
   simp at e5 e6; omega
  ·rintro m8 ⟨h8,hlast⟩
   refine forI (n:=q.code.length) (by omega) (fun k m'=>Ext m7 m'/\∀ (j:Nat) (i:Instr),j < k->q.code[j]?=some i->InstrOk im q j i) ⟨h8,fun j i hj=>by omega⟩ ?_
   rintro k m9 I2 μ2 hk ⟨h9,hins⟩ next2
   have hx9:=hx7.trans h9
   refine ⟨fun hlt2=>?_,fun hge2=>?_⟩
   ·simp only [decide_eq_true_eq] at hlt2
    obtain ⟨i,hi⟩:=q00 (l:=q.code) (k:=k) (by omega)
    obtain ⟨xa,xj,hxa,hxj,k0,k1,k2,k3,k4,k5⟩:=(q1c.ext (h7.trans h9) hc).at' hi
    refine ⟨by omega,by omega,_,by simpa using k0,_,by simpa using k1,_,by simpa using k2,_,by simpa using k3,xa,by simpa using k4,xj,by simpa using k5,?_⟩
    intro m10 m11
    have s11:m11.size=m9.size+1:=by simp [m11,m10,q02]
    have h11:Ext m9 m11:=((Ext.refl m9).pushed _).scells (Nat.le_refl _) _ _
    have hx11:=hx9.trans h11
    have q1:=h9.size
    have q2:=h5.size
    clear_value m11
    refine (qic (a:=a) (l:=l) (q0q.ext hx11 h.decls) hsig.types (SigSl.ext (h4.trans (h5.trans (h7.trans (h9.trans h11)))) hf) hsig.len.2 (fun q' hq'=>(hsig.each q' hq').1) (q1c.ext (h7.trans (h9.trans h11)) hc) hreg.2.2 (k:=k) (i:=i) (hxa.ext h11) (hxj.ext h11)).thenS (Ext.refl _) (by simp; omega) ?_
    intro b' m12 hb' h12 _
    refine ⟨b',rfl,fun e=>retF (fun ho=>nb hb' e ((ho.each q hqm).each k i hi)) (hx11.trans h12),fun e=>next2 (by omega) _ ⟨h9.trans (h11.trans h12),fun j i' hj hi'=>?_⟩⟩
    rcases Nat.lt_succ_iff_lt_or_eq.1 hj with hj | rfl
    ·exact hins j i' hj hi'
    ·rw [hi] at hi'; simp at hi'; subst hi'; exact yb hb' e
   ·simp only [decide_eq_false_iff_not] at hge2
    refine next (by omega) _ ⟨h5.trans (h7.trans h9),q0f hq hall ⟨hlent q hqm,hreg,hlen,fun j i hi=>hins j i (by have:=q04 hi; omega) hi,fun i hi=>?_⟩⟩
    rw [hi0] at hi; simp at hi; subst hi; exact hlast
 ·simp only [decide_eq_false_iff_not] at hge
  exact retT ⟨hsig,q0w (by omega) hall⟩ hx5
end
section
def CellR (m:Mem) (cs:List Ce) (c:Cell):Prop:=∃ f,cs=[.i c.count,.i c.tag,.s f]/\q03 m f c.fields
def FrameR (m:Mem) (cs:List Ce) (f:Frame):Prop:=∃ r o h,cs=[.i f.proc,.i f.pc,.i f.dst,.s r,.s o,.s h]/\q03 m r f.regs/\q03 m o f.own/\q03 m h f.held
abbrev q0h (m:Mem) (s:Sl) (l:List Cell):Prop:=SlOf m 3 (CellR m) s l
abbrev FrameSl (m:Mem) (s:Sl) (l:List Frame):Prop:=SlOf m 6 (FrameR m) s l
theorem CellR.ext {m m':Mem} (hm:Ext m m') (cs:List Ce) (c:Cell):CellR m cs c->CellR m' cs c:=fun ⟨f,h1,h2⟩=>⟨f,h1,h2.ext hm⟩
theorem q0h.ext {m m':Mem} (hm:Ext m m') {s:Sl} {l:List Cell} (h:q0h m s l):q0h m' s l:=h.mono hm (CellR.ext hm)
theorem FrameR.ext {m m':Mem} (hm:Ext m m') (cs:List Ce) (c:Frame):FrameR m cs c->FrameR m' cs c:=fun ⟨r,o,h,h1,h2,h3,h4⟩=>⟨r,o,h,h1,h2.ext hm,h3.ext hm,h4.ext hm⟩
theorem FrameSl.ext {m m':Mem} (hm:Ext m m') {s:Sl} {l:List Frame} (h:FrameSl m s l):FrameSl m' s l:=h.mono hm (FrameR.ext hm)
theorem q0h.at' {m:Mem} {s:Sl} {l:List Cell} (h:q0h m s l) {k:Nat} {x:Cell} (hk:l[k]?=some x) :
  ∃ f,q03 m f x.fields/\gcell m s.blk (s.off+k*3)=some (vi x.count)/\gcell m s.blk (s.off+k*3+1)=some (vi x.tag)/\gcell m s.blk (s.off+k*3+2)=some (Sl.v f):=by
 obtain ⟨cs,⟨f,rfl,hf⟩,hr⟩:=h.row k x hk
 exact ⟨f,hf,hr 0 (.i x.count) rfl,hr 1 (.i x.tag) rfl,hr 2 (.s f) rfl⟩
theorem FrameSl.at' {m:Mem} {s:Sl} {l:List Frame} (h:FrameSl m s l) {k:Nat} {x:Frame} (hk:l[k]?=some x) :
  ∃ r o e,q03 m r x.regs/\q03 m o x.own/\q03 m e x.held/\gcell m s.blk (s.off+k*6)=some (vi x.proc)/\gcell m s.blk (s.off+k*6+1)=some (vi x.pc)/\gcell m s.blk (s.off+k*6+2)=some (vi x.dst) /\
   gcell m s.blk (s.off+k*6+3)=some (Sl.v r)/\gcell m s.blk (s.off+k*6+4)=some (Sl.v o)/\gcell m s.blk (s.off+k*6+5)=some (Sl.v e):=by
 obtain ⟨cs,⟨r,o,e,rfl,hr,ho,he⟩,hrow⟩:=h.row k x hk
 exact ⟨r,o,e,hr,ho,he,hrow 0 (.i x.proc) rfl,hrow 1 (.i x.pc) rfl,hrow 2 (.i x.dst) rfl,hrow 3 (.s r) rfl,hrow 4 (.s o) rfl,hrow 5 (.s e) rfl⟩
theorem _root_.Go.Vc.SlOf.atI {m:Mem} {s:Sl} {l:List Int} (h:SlOf m 1 IntR s l) {i:Int} (h0:0<=i) (h1:i < l.length):gcell m s.blk (s.off+i.toNat*1)=some (vi (at' l i)):=q03.at' h (at_get h0 h1)
structure RV (m:Mem) (mb o:Nat) (d p out hp fr:Sl) (im:Image) (s:St):Prop where
 image:ImageR m d p im
 decls:gcell m mb 0=some (Sl.v d)
 procs:gcell m mb 1=some (Sl.v p)
 status:gcell m mb o=some (vi s.status)
 value:gcell m mb (o+1)=some (vi s.value)
 calls:gcell m mb (o+2)=some (vi s.calls)
 most:gcell m mb (o+3)=some (vi s.most)
 outc:gcell m mb (o+4)=some (Sl.v out)
 heapc:gcell m mb (o+5)=some (Sl.v hp)
 framesc:gcell m mb (o+6)=some (Sl.v fr)
 out:q03 m out s.out
 heap:q0h m hp s.heap
 frames:FrameSl m fr s.frames
theorem RV.ext {m m':Mem} {mb o:Nat} {d p out hp fr:Sl} {im:Image} {s:St} (h:RV m mb o d p out hp fr im s) (hx:Ext m m'):RV m' mb o d p out hp fr im s :=
 ⟨h.image.ext hx,hx.gcell h.decls,hx.gcell h.procs,hx.gcell h.status,hx.gcell h.value,hx.gcell h.calls,hx.gcell h.most,hx.gcell h.outc,hx.gcell h.heapc,hx.gcell h.framesc,h.out.ext hx,q0h.ext hx h.heap,FrameSl.ext hx h.frames⟩
theorem leastN (P:Nat->Prop):∀ (n:Nat),P n->∃ k,P k/\∀ j,P j->k<=j:=by
 intro n
 induction n using Nat.strongRecOn with
 | _ n ih =>
  intro hn
  rcases Classical.em (∃ j,j < n/\P j) with ⟨j,hj,hp⟩ | hno
  ·exact ih j hj hp
  ·exact ⟨n,hn,fun j hj=>Classical.byContradiction fun h=>hno ⟨j,by omega,hj⟩⟩
theorem whileG1 {γ σ:Type} {m:Mem} {s0:σ} {Body:(σ->Mem->Prop)->(σ->Mem->Nat)->σ->Mem->Prop} (J:γ->σ->Mem->Prop) (ν:γ->Nat) (g0:γ) (h0:J g0 s0 m)
  (h:∀ (g:γ) (s:σ) (m1:Mem) (I:σ->Mem->Prop) (μ:σ->Mem->Nat),J g s m1->(∀ g' s' m',J g' s' m'->ν g' < ν g->I s' m'/\μ s' m' < μ s m1)->Body I μ s m1) :
  ∃ (I:σ->Mem->Prop) (μ:σ->Mem->Nat),I s0 m/\∀ s m1,I s m1->Body I μ s m1:=by
 classical
 let I:σ->Mem->Prop:=fun s m=>∃ g,J g s m
 have hex:∀ s m,I s m->∃ k,(∃ g,J g s m/\ν g=k)/\∀ j,(∃ g,J g s m/\ν g=j)->k<=j:=fun s m ⟨g,hg⟩=>leastN _ (ν g) ⟨g,hg,rfl⟩
 let μ:σ->Mem->Nat:=fun s m=>if hI:I s m then Classical.choose (hex s m hI) else 0
 refine ⟨I,μ,⟨g0,h0⟩,fun s m1 hI=>?_⟩
 obtain ⟨g,hg,hn⟩:=(Classical.choose_spec (hex s m1 hI)).1
 refine h g s m1 I μ hg fun g' s' m' hJ hlt=>⟨⟨g',hJ⟩,?_⟩
 have hI':I s' m':=⟨g',hJ⟩
 simp only [μ,dif_pos hI,dif_pos hI']
 exact Nat.lt_of_le_of_lt ((Classical.choose_spec (hex s' m' hI')).2 _ ⟨g',hJ,rfl⟩) (hn ▸ hlt)
theorem whileG2 {γ σ τ:Type} {m:Mem} {s0:σ} {t0:τ} {Body:(σ->τ->Mem->Prop)->(σ->τ->Mem->Nat)->σ->τ->Mem->Prop} (J:γ->σ->τ->Mem->Prop) (ν:γ->Nat) (g0:γ) (h0:J g0 s0 t0 m)
  (h:∀ (g:γ) (s:σ) (t:τ) (m1:Mem) (I:σ->τ->Mem->Prop) (μ:σ->τ->Mem->Nat),J g s t m1->(∀ g' s' t' m',J g' s' t' m'->ν g' < ν g->I s' t' m'/\μ s' t' m' < μ s t m1)->Body I μ s t m1) :
  ∃ (I:σ->τ->Mem->Prop) (μ:σ->τ->Mem->Nat),I s0 t0 m/\∀ s t m1,I s t m1->Body I μ s t m1:=by
 obtain ⟨I,μ,h1,h2⟩:=whileG1 (σ:=σ × τ) (s0:=(s0,t0)) (Body:=fun I μ st m1=>Body (fun s t=>I (s,t)) (fun s t=>μ (s,t)) st.1 st.2 m1) (fun g st m=>J g st.1 st.2 m) ν g0 h0 (fun g st m1 I μ hJ hn=>h g st.1 st.2 m1 (fun s t=>I (s,t)) (fun s t=>μ (s,t)) hJ fun g' s' t' m'=>hn g' (s',t') m')
 exact ⟨fun s t=>I (s,t),fun s t=>μ (s,t),h1,fun s t=>h2 (s,t)⟩
end
end Go.Proofs.YtpggcodlaajceaaGreat
