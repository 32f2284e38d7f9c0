/- Part of a proof, joined by a program: Va6 Va7 Va8 Va9 Vb1 Vb2 Vb3. -/
import Derived.Test.YtpggcodlaajceaaGreatU09
import Derived.Test.YtpggcodlaajceaaGreatU10
import Derived.Test.YtpggcodlaajceaaGreatU12
set_option linter.unusedVariables false
set_option linter.unusedSimpArgs false
namespace Go.Proofs.YtpggcodlaajceaaGreat
open Go.Vc
section
theorem qrd (a:Int):(a == (0:Int))=decide (a=0):=by by_cases h:a=0 <;> simp [h]
theorem qh4 (a b:Int):(!((a == (0:Int)) == (b == (0:Int))))=false ↔ (a=0 ↔ b=0):=by
 rw [qrd,qrd]
 by_cases h1:a=0 <;> by_cases h2:b=0 <;> simp [h1,h2]
section
variable {m:Mem} {d p out hp fr:Sl} {im:Image} {s:St}
structure FrOk (h:List Cell) (fs:List Frame):Prop where
 len:∀ f ∈ fs,f.own.length=f.regs.length
 regs:∀ f ∈ fs,RegsOk h f
theorem FrOk.own {h:List Cell} {fs:List Frame} (H:FrOk h fs) {f:Frame} (hf:f ∈ fs):∀ o ∈ f.own,0<=o/\o<=999999:=fun o ho=>by
 obtain ⟨k,hk⟩:=List.mem_iff_getElem?.1 ho
 obtain ⟨w,hw⟩:=q00 (l:=f.regs) (k:=k) (by have:=q04 hk; have:=H.len f hf; omega)
 exact ((H.regs f hf).each k w o hw hk).2.1
theorem qme (hs:StR m out hp fr s) (hfit:FitS s) (hd:s.frames.length<=41) (H:FrOk s.heap s.frames):TellsI q91 [stV s out hp fr] m (tab s.heap.length (owns s.frames)):=by
 apply qhj
 simp -zeta only [q0a,q09,rI,rS,rB,cI,cB,cS,dI,dB,dS,gk,rg]
 intro m1
 have x1:Ext m m1:=(Ext.refl m).pushed _
 have s1:m1.size=m.size+1:=by simp [m1]
 clear_value m1
 have hl:=hs.heap.len
 have hll:=hfit.lh
 have hfl:=hs.frames.len
 have en:Int.toNat (hp.len:Int)=s.heap.length:=by omega
 rw [en]
 refine ⟨by omega,by omega,by omega,by omega,?_⟩
 intro m2
 have x2:Ext m1 m2:=(Ext.refl m1).pushed _
 have B2:Blk m2 m1.size ty_int ((tab s.heap.length (fun _=>0)).map Ce.i):=tabNew m1 _
 have s2:m2.size=m1.size+1:=by simp [m2]
 clear_value m2
 refine forI (n:=s.frames.length) (by omega) (fun i m'=>Ext m1 m'/\m1.size < m'.size/\Blk m' m1.size ty_int ((tab s.heap.length (fun a=>owns (s.frames.take i) a)).map Ce.i)) ⟨x2,by omega,by simpa [owns] using B2⟩ ?_
 rintro i m3 I μ hi ⟨x3,z3,B3⟩ next
 refine ⟨fun h1=>?_,fun h1=>?_⟩
 ·simp only [decide_eq_true_eq] at h1
  obtain ⟨f,hf⟩:=q00 (l:=s.frames) (k:=i) (by omega)
  have hfm:=q05 hf
  have hlr:=hfit.lr f hfm
  obtain ⟨r,o,e,hr,ho,he,g0,g1,g2,g3,g4,g5⟩:=(hs.ext (x1.trans x3)).frames.at' hf
  have hrl:=hr.len
  have hol:=ho.len
  have hlen:=H.len f hfm
  have ei:Int.toNat (i:Int)=i:=by omega
  rw [ei]
  refine ⟨by omega,by omega,_,g0,_,g1,_,g2,r,g3,o,g4,e,g5,?_⟩
  intro m4 m5
  have x5:Ext m3 m5:=((Ext.refl m3).pushed _).scells (Nat.le_refl _) _ _
  have s5:m5.size=m3.size+1:=by simp [m5,m4,q02]
  clear_value m5
  have B5:=B3.ext x5
  have x15:=x3.trans x5
  refine forI (n:=f.own.length) (by omega) (fun k m'=>Ext m1 m'/\m5.size<=m'.size/\(∀ b,b < m5.size->b ≠ m1.size->m'[b]?=m5[b]?)/\Blk m' m1.size ty_int ((tab s.heap.length (fun a=>owns (s.frames.take i) a+q0m (f.regs.take k) (f.own.take k) a)).map Ce.i)) ⟨x15,Nat.le_refl _,fun _ _ _=>rfl,by simpa [q0m] using B5⟩ ?_
  rintro k m6 J ν hk ⟨x6,z6,e6,B6⟩ next6
  refine ⟨fun h2=>?_,fun h2=>?_⟩
  ·simp only [decide_eq_true_eq] at h2
   obtain ⟨w,hw⟩:=q00 (l:=f.regs) (k:=k) (by omega)
   obtain ⟨q,hqk⟩:=q00 (l:=f.own) (k:=k) (by omega)
   have R:=(H.regs f hfm).each k w q hw hqk
   obtain ⟨r',o',e',hr',ho',he',_,_,_,_,y4,_⟩:=(hs.ext (x1.trans x6)).frames.at' hf
   have lb:∀ {sl:Sl} {l:List Int},q03 m sl l->l ≠ []->sl.blk < m.size:=fun h hne=>q2c h hne
   obtain ⟨r0,o0,e0,hr0,ho0,_,_,_,_,w3,w4,_⟩:=hs.frames.at' hf
   have er:r0=r:=by have:=(x1.trans x3).gcell w3; rw [g3] at this; exact (Sl.v_inj.1 (Option.some.inj this)).symm
   have eo:o0=o:=by have:=(x1.trans x3).gcell w4; rw [g4] at this; exact (Sl.v_inj.1 (Option.some.inj this)).symm
   subst er; subst eo
   have gq:gcell m6 o0.blk (o0.off+Int.toNat (k:Int)*1)=some (vi q):=by simpa using (ho0.ext (x1.trans x6)).at' hqk
   have gw:gcell m6 r0.blk (r0.off+Int.toNat (k:Int)*1)=some (vi w):=by simpa using (hr0.ext (x1.trans x6)).at' hw
   refine ⟨by omega,by omega,q,gq,fun h3=>?_,fun h3=>?_⟩
   ·have hq0:0 < q:=by simpa using h3
    have hlv:=R.2.2 hq0
    have hlt:=q04 (q0i hlv).1
    have h64:=(hfit.frames f hfm).1 w (q05 hw)
    have e1:w64 (w - 1000)=(ix w:Nat):=by have:=hlv.1; have:=h64.2; unfold ix; rw [q07 (by omega) (by omega)]; omega
    have e2:Int.toNat ((ix w:Nat):Int)=ix w:=by omega
    refine ⟨by omega,by omega,w,gw,by omega,by omega,w,gw,?_⟩
    rw [e1,e2]
    simp only [Sl.len_mk,Sl.blk_mk,Sl.off_mk,Nat.zero_add,Nat.mul_one]
    have q1:=qkj (fs:=s.frames.take i) (n:=10000000) (k:=999999) (by omega) (fun g hg=>⟨(hfit.lr g (List.mem_of_mem_take hg)).2.1,H.own (List.mem_of_mem_take hg)⟩) (ix w)
    have q2:=qg6 (regs:=f.regs.take k) (own:=f.own.take k) (n:=999999) (by omega) (fun o ho=>H.own hfm o (List.mem_of_mem_take ho)) (ix w)
    have q5:(s.frames.take i).length<=41:=by simp; omega
    have q6:(f.own.take k).length<=10000000:=by simp; omega
    have q7:=R.2.1
    refine ⟨by omega,by omega,_,tabGet B6 hlt,by omega,by omega,q,by simpa using gq,by omega,by omega,tabWr B6 hlt,?_⟩
    rw [show w64 (owns (s.frames.take i) (ix w)+q0m (f.regs.take k) (f.own.take k) (ix w)+q)=owns (s.frames.take i) (ix w)+q0m (f.regs.take k) (f.own.take k) (ix w)+q from q07 (by omega) (by omega)]
    have B7:=tabSet B6 (ix w) (owns (s.frames.take i) (ix w)+q0m (f.regs.take k) (f.own.take k) (ix w)+q)
    rw [q1i (g:=fun a=>owns (s.frames.take i) a+q0m (f.regs.take (k+1)) (f.own.take (k+1)) a)] at B7
    ·refine ⟨fun b hb=>q0n _ _ _ _ (by simp at hb; omega),next6 (by omega) _ ⟨x6.scells (Nat.le_refl _) _ _,by rw [q02]; exact z6,fun b hb hne=>by rw [q0n _ _ _ _ hne]; exact e6 b hb hne,B7⟩⟩
    ·intro b hb
     rw [q98 hw hqk]
     by_cases e:b=ix w
     ·subst e; rw [if_pos rfl,if_pos (ptr_ix hlv.1).symm]; omega
     ·rw [if_neg e,if_neg (fun hw2=>e (by rw [hw2,ix_ptr]))]; omega
   ·have hq0:q=0:=by have:=R.2.1.1; simp at h3; omega
    refine next6 (by omega) m6 ⟨x6,z6,e6,?_⟩
    rw [q1i (g:=fun a=>owns (s.frames.take i) a+q0m (f.regs.take k) (f.own.take k) a)]
    ·exact B6
    ·intro b hb; rw [q98 hw hqk,hq0]; split <;> omega
  ·simp only [decide_eq_false_iff_not] at h2
   have e1:f.regs.take k=f.regs:=q0b (by omega)
   have e2:f.own.take k=f.own:=q0b (by omega)
   rw [e1,e2] at B6
   refine next (by omega) m6 ⟨x6,by omega,?_⟩
   rw [q1i (g:=fun a=>owns (s.frames.take i) a+q0m f.regs f.own a)]
   ·exact B6
   ·intro b hb; exact qq7 hf b
 ·simp only [decide_eq_false_iff_not] at h1
  have ee:s.frames.take i=s.frames:=q0b (by omega)
  rw [ee] at B3
  exact ⟨_,rfl,tabInts B3 (by omega),x1.trans x3⟩
theorem qhy (hs:StR m out hp fr s) (hfit:FitS s) (hd:s.frames.length<=41) (H:FrOk s.heap s.frames) (hc:∀ c ∈ s.heap,CellOk s.heap c) :
  q0o Tryz.prog q6k [stV s out hp fr] m (∀ (a:Nat) (c:Cell),s.heap[a]?=some c->0 < c.count->c.count=refs s.heap a+owns s.frames a):=by
 apply qeo
 simp -zeta only [q0a,q09,rI,rS,rB,cI,cB,cS,dI,dB,dS,gk,rg]
 intro m1
 have x1:Ext m m1:=(Ext.refl m).pushed _
 have s1:m1.size=m.size+1:=by simp [m1]
 clear_value m1
 have hl:=hs.heap.len
 have hll:=hfit.lh
 refine (qf3 (hs.ext x1).heap hc hfit.heap (by omega)).mono ?_
 rintro _ m2 ⟨r,rfl,hr,x2⟩
 have z2:=x2.size
 refine ⟨x2.sam (by simp; omega),r,rfl,(qme (hs.ext (x1.trans x2)) hfit hd H).mono ?_⟩
 rintro _ m3 ⟨o,rfl,ho,x3⟩
 have hrl:=hr.len
 have hol:=ho.len
 rw [q4w] at hrl hol
 have X3:=(x1.trans x2).trans x3
 refine ⟨x3.sam (by simp; omega),o,rfl,?_⟩
 refine forI (n:=s.heap.length) (by omega) (fun k m'=>m'=m3/\∀ (a:Nat) (c:Cell),a < k->s.heap[a]?=some c->0 < c.count->c.count=refs s.heap a+owns s.frames a) ⟨rfl,fun a c ha=>absurd ha (Nat.not_lt_zero _)⟩ ?_
 rintro k m4 I μ hk ⟨rfl,hq⟩ next
 refine ⟨fun h2=>?_,fun h2=>?_⟩
 ·simp only [decide_eq_true_eq] at h2
  have hkl:k < s.heap.length:=by omega
  obtain ⟨c,hck⟩:=q00 hkl
  obtain ⟨f,_,g1,_,_⟩:=(hs.ext X3).heap.at' hck
  have ek:Int.toNat (k:Int)=k:=by omega
  rw [ek]
  have more:(0 < c.count->c.count=refs s.heap k+owns s.frames k)->∀ (a:Nat) (c:Cell),a < k+1->s.heap[a]?=some c->0 < c.count->c.count=refs s.heap a+owns s.frames a:=fun hn a d ha hd=>by
   rcases Nat.lt_or_ge a k with h6 | h6
   ·exact hq a d h6 hd
   ·have:a=k:=by omega
    subst this
    rw [hck] at hd; simp at hd; subst hd; exact hn
  have q1:=qcr s.heap k fun c hm=>(hc c hm).fl
  have q2:=q60 s.heap k
  have q3:=qkj (fs:=s.frames) (n:=10000000) (k:=999999) (by omega) (fun g hg=>⟨(hfit.lr g hg).2.1,H.own hg⟩) k
  refine ⟨by omega,by omega,_,g1,fun h3=>?_,fun h3=>next (by omega) _ ⟨rfl,more fun h4=>by simp at h3; omega⟩⟩
  refine ⟨by omega,by omega,_,g1,by omega,by omega,_,(hr.ext x3).at' (q8z hkl),by omega,by omega,_,ho.at' (q8z hkl),?_⟩
  rw [show w64 (refs s.heap k+owns s.frames k)=refs s.heap k+owns s.frames k from q07 (by omega) (by omega)]
  refine ⟨fun h4=>retF (fun hk=>?_) X3,fun h4=>next (by omega) _ ⟨rfl,more fun _=>by simpa using h4⟩⟩
  have:=hk k c hck (by simpa using h3)
  simp at h4; exact h4 this
 ·simp only [decide_eq_false_iff_not] at h2
  exact retT (fun a c hc hn=>hq a c (by have:=q04 hc; omega) hc hn) X3
theorem qix (him:ImageR m d p im) (hs:StR m out hp fr s) (hfit:FitS s):q0o Tryz.prog q78 [.agg #[Sl.v d,Sl.v p],stV s out hp fr] m (StateOk im s):=by
 apply qez
 simp -zeta only [q0a,q09,rI,rS,rB,cI,cB,cS,dI,dB,dS,gk,rg]
 intro m1 m2
 have x2:Ext m m2:=((Ext.refl m).pushed _).pushed _
 have s1:m1.size=m.size+1:=by simp [m1]
 have s2:m2.size=m.size+2:=by simp [m2,s1]
 clear_value m2
 have hl:∀ b ∈ [m1.size,m.size],b < m2.size:=by simp; omega
 have hfl:=hs.frames.len
 have no:∀ {M:Mem},Ext m2 M->¬ StChk im s->∃ b':Bool,vb false=.bool b'/\(b'=true ↔ StateOk im s)/\Ext m M:=fun hx hn=>retF (fun h=>hn (chk_of h)) (x2.trans hx)
 refine (qiv (him.ext x2)).thenS (Ext.refl _) hl fun b3 m3 hb3 x3 _=>⟨b3,rfl,fun h1=>no x3 fun hk=>nb hb3 h1 hk.image,fun h1=>?_⟩
 have hi:=yb hb3 h1
 refine (q0e _ _ _ _).thenS x3 hl fun b4 m4 hb4 x34 x4=>⟨b4,rfl,fun h2=>no x4 fun hk=>nb hb4 h2 hk.status,fun h2=>?_⟩
 have hst:=yb hb4 h2
 have hem:(s.frames=[]) ↔ ((fr.len:Int)=0):=by rw [hfl]; simp
 refine ⟨fun h3=>no x4 fun hk=>?_,fun h3=>?_⟩
 ·have:=hk.done
  rw [hem,← qh4] at this
  rw [this] at h3; cases h3
 have hdone:s.status=0 ↔ s.frames=[]:=by rw [hem]; exact (qh4 _ _).1 h3
 refine ⟨fun M=>Ext m2 M/\isInt s.value/\(s.value ≠ 0->s.status=0)/\(0<=s.most/\s.most<=40)/\(0<=s.calls/\s.calls<=s.most),?_,?_⟩
 ·refine (q0e _ _ _ _).thenS x4 hl fun b5 m5 hb5 x45 x5=>⟨b5,rfl,fun h4=>no x5 fun hk=>nb hb5 h4 hk.value,fun h4=>?_⟩
  have hv:=yb hb5 h4
  have tail:(s.value ≠ 0->s.status=0)->q08 Tryz.prog q0d [vi s.most,vi (0:Int),vi (40:Int)] m5 fun r_3 m1_5=>Sam [m1.size,m.size] m5 m1_5/\∃ r42:Bool,r_3=vb r42 /\
    ((!r42)=true->∃ b':Bool,vb false=.bool b'/\(b'=true ↔ StateOk im s)/\Ext m m1_5)/\((!r42)=false->q08 Tryz.prog q0d [vi s.calls,vi (0:Int),vi s.most] m1_5 fun r_4 m1_6 =>
    Sam [m1.size,m.size] m1_5 m1_6/\∃ r50:Bool,r_4=vb r50/\((!r50)=true->∃ b':Bool,vb false=.bool b'/\(b'=true ↔ StateOk im s)/\Ext m m1_6) /\
    ((!r50)=false->Ext m2 m1_6/\isInt s.value/\(s.value ≠ 0->s.status=0)/\(0<=s.most/\s.most<=40)/\(0<=s.calls/\s.calls<=s.most))):=fun hv0 =>
   (q0e _ _ _ _).thenS x5 hl fun b6 m6 hb6 x56 x6=>⟨b6,rfl,fun h6=>no x6 fun hk=>nb hb6 h6 hk.most,fun h6 =>
    (q0e _ _ _ _).thenS x6 hl fun b7 m7 hb7 x67 x7=>⟨b7,rfl,fun h7=>no x7 fun hk=>nb hb7 h7 hk.calls,fun h7=>⟨x7,hv,hv0,yb hb6 h6,yb hb7 h7⟩⟩⟩
  refine ⟨fun h5=>⟨fun h6=>no x5 fun hk=>?_,fun h6=>tail fun _=>by simpa using h6⟩,fun h5=>tail fun h6=>absurd (by simpa using h5) h6⟩
  have:=hk.value0 (by simpa using h5)
  simp at h6; exact h6 this
 ·rintro m5 ⟨x5,hv,hv0,hmost,hcalls⟩
  rw [q07 (by omega) (by omega)]
  refine ⟨fun h4=>no x5 fun hk=>by have:=hk.depth; simp at h4; omega,fun h4=>?_⟩
  have hdep:(s.frames.length:Int)<=s.calls+1:=by simp at h4; omega
  have hd41:s.frames.length<=41:=by omega
  refine (qjb (hs.ext (x2.trans x5)).out).thenS x5 hl fun b6 m6 hb6 x56 x6=>⟨b6,rfl,fun h5=>no x6 fun hk=>nb hb6 h5 hk.out,fun h5=>?_⟩
  have hout:=yb hb6 h5
  refine (qlv (hs.ext (x2.trans x6)).heap hfit.heap (by have:=hfit.lh; omega)).thenS x6 hl fun b7 m7 hb7 x67 x7=>⟨b7,rfl,fun h6=>no x7 fun hk=>nb hb7 h6 hk.heap,fun h6=>?_⟩
  have hheap:=yb hb7 h6
  refine forI (n:=s.frames.length) (by omega) (fun k m'=>Ext m2 m'/\∀ (j:Nat) (f:Frame),j < k->s.frames[j]?=some f->FrmOk im s.heap (prevAt s.frames j) f) ⟨x7,fun j f hj=>absurd hj (Nat.not_lt_zero _)⟩ ?_
  rintro k m8 I μ hk ⟨x8,hq⟩ next
  refine ⟨fun h7=>?_,fun h7=>?_⟩
  ·simp only [decide_eq_true_eq] at h7
   obtain ⟨f,hf⟩:=q00 (l:=s.frames) (k:=k) (by omega)
   refine (qka (him.ext (x2.trans x8)) (hs.ext (x2.trans x8)) hfit hf).thenS x8 hl fun b9 m9 hb9 x89 x9=>⟨b9,rfl,fun h8=>no x9 fun hk=>nb hb9 h8 (hk.frames k f hf),fun h8=>next (by omega) _ ⟨x9,fun j g hj hg=>?_⟩⟩
   rcases Nat.lt_or_ge j k with h10 | h10
   ·exact hq j g h10 hg
   ·have:j=k:=by omega
    subst this
    rw [hf] at hg; simp at hg; subst hg; exact yb hb9 h8
  ·simp only [decide_eq_false_iff_not] at h7
   have hfr:∀ (j:Nat) (f:Frame),s.frames[j]?=some f->FrmOk im s.heap (prevAt s.frames j) f:=fun j f hf=>hq j f (by have:=q04 hf; omega) hf
   have HF:FrOk s.heap s.frames:=⟨fun f hf=>by
    obtain ⟨j,hj⟩:=qba hf
    have h1:=(hfr j f hj).lr
    have h2:=(hfr j f hj).lo
    omega,fun f hf=>let ⟨j,hj⟩:=qba hf; (hfr j f hj).regs⟩
   refine (qmt (hs.ext (x2.trans x8)) hfit hd41).thenS x8 hl fun b9 m9 hb9 x89 x9=>⟨b9,rfl,fun h8=>?_,fun h8=>no x9 fun hk=>fb hb9 h8 hk.held⟩
   refine (qhy (hs.ext (x2.trans x9)) hfit hd41 HF hheap.cells).thenS x9 hl fun b10 m10 hb10 x910 x10=>⟨b10,rfl,retB ?_ (x2.trans x10)⟩
   rw [hb10]
   exact ⟨fun hx=>qnp ⟨hi,hst,hdone,hv,hv0,hmost,hcalls,hdep,hout,hheap,hfr,hb9.1 h8,hx⟩,fun hk=>(chk_of hk).exact'⟩
end
end
section
theorem q7y (n:Int) (m:Mem):q0o Tryz.prog q5e [vi n] m (isInt n):=by
 apply qn6
 refine ⟨fun h=>retB ?_ (Ext.refl _),fun h=>retF (fun hi=>?_) (Ext.refl _)⟩
 ·simp at h; simp [isInt,h]
 ·simp at h; have:=hi.1; omega
theorem qlc {m:Mem} {hp:Sl} {h:List Cell} (hh:q0h m hp h) {w:Int} (hw:In64 w):q0o Tryz.prog q8a [Sl.v hp,vi w] m (isWord h w):=by
 apply qg4
 refine (q2f hh hw.2).mono ?_
 rintro _ m1 ⟨a,b,rfl,hb,_,x1⟩
 refine ⟨a,b,rfl,fun h1=>retT (Or.inr (hb.1 h1)) x1,fun h1=>?_⟩
 refine (q7y w m1).then fun b2 m2 hb2 x2=>⟨b2,rfl,retB ?_ (x1.trans x2)⟩
 rw [hb2]
 exact ⟨Or.inl,fun hh=>hh.resolve_right (fb hb h1)⟩
structure CellV (h:List Cell) (c:Cell):Prop where
 lo:-1<=c.count
 tag:0<=c.tag/\c.tag<=99
 fl:c.fields.length<=3
 dead:c.count < 1->c.tag=0
 free:c.count=0->c.fields=[]
 words:∀ w ∈ c.fields,isWord h w/\(c.count < 0->w=0)
theorem CellV.ok {h:List Cell} {c:Cell} (hv:CellV h c) (hi:c.count<=999999):CellOk h c :=
 ⟨hv.fl,hv.lo,hi,fun hd=>⟨hv.dead hd,fun w hw=>by
  by_cases hn:c.count < 0
  ·exact (hv.words w hw).2 hn
  ·rw [hv.free (by omega)] at hw; simp at hw,hv.free⟩,fun _=>⟨fun w hw=>(hv.words w hw).1,hv.tag⟩⟩
theorem CellOk.v {h:List Cell} {c:Cell} (hc:CellOk h c):CellV h c:=by
 refine ⟨hc.lo,?_,hc.fl,fun hd=>(hc.dead hd).1,fun h0=>(hc.dead (by omega)).2.2 h0,fun w hw=>⟨?_,fun hn=>(hc.dead (by omega)).2.1 w hw⟩⟩
 ·by_cases hp:0 < c.count
  ·exact (hc.alive hp).2
  ·have:=(hc.dead (by omega)).1; omega
 ·by_cases hp:0 < c.count
  ·exact (hc.alive hp).1 w hw
  ·have:=(hc.dead (by omega)).2.1 w hw; exact Or.inl (by subst this; exact ⟨by decide,by decide⟩)
theorem CellV.cases {h:List Cell} {c:Cell} (hv:CellV h c) {w:Int} (hw:w ∈ c.fields):live h w \/ w < 1000:=by
 rcases (hv.words w hw).1 with h1 | h1
 ·have:=h1.2; exact Or.inr (by omega)
 ·exact Or.inl h1
theorem qlg {m:Mem} {hp f:Sl} {h:List Cell} {c:Cell} (hh:q0h m hp h) (hf:q03 m f c.fields) (hw:∀ w ∈ c.fields,In64 w):q0o Tryz.prog q88 [Sl.v hp,.agg #[vi c.count,vi c.tag,Sl.v f]] m (CellV h c):=by
 apply qgh
 simp -zeta only [q0a,q09,rI,rS,rB,cI,cB,cS,dI,dB,dS,gk,rg]
 intro m1
 have x1:Ext m m1:=(Ext.refl m).pushed _
 have s1:m1.size=m.size+1:=by simp [m1]
 clear_value m1
 have hfl:=hf.len
 have hl:∀ b ∈ [m.size],b < m1.size:=by simp; omega
 refine ⟨fun h1=>retF (fun hc=>by have:=hc.lo; simp at h1; omega) x1,fun h1=>⟨fun h2=>retF (fun hc=>by have:=hc.tag; simp at h2; omega) x1,fun h2=>⟨fun h3=>retF (fun hc=>by have:=hc.tag; simp at h3; omega) x1,fun h3=>⟨fun h4=>retF (fun hc=>by have:=hc.fl; simp at h4; omega) x1,fun h4=>?_⟩⟩⟩⟩
 simp at h1 h2 h3 h4
 refine ⟨fun M=>M=m1/\(c.count < 1->c.tag=0)/\(c.count=0->c.fields=[]),?_,?_⟩
 ·have zero:(c.count < 1->c.tag=0)->((c.count == (0:Int))=true->((decide ((f.len:Int) > (0:Int)))=true->∃ b':Bool,vb false=.bool b'/\(b'=true ↔ CellV h c)/\Ext m m1) /\
    ((decide ((f.len:Int) > (0:Int)))=false->m1=m1/\(c.count < 1->c.tag=0)/\(c.count=0->c.fields=[])))/\((c.count == (0:Int))=false->m1=m1/\(c.count < 1->c.tag=0)/\(c.count=0->c.fields=[])):=fun ht =>
   ⟨fun h5=>⟨fun h6=>retF (fun hc=>by have:=hc.free (by simpa using h5); rw [this] at hfl; simp at h6 hfl; omega) x1,fun h6=>⟨rfl,ht,fun _=>List.length_eq_zero_iff.1 (by simp at h6; omega)⟩⟩,fun h5=>⟨rfl,ht,fun h6=>by simp at h5; exact absurd h6 h5⟩⟩
  refine ⟨fun h5=>⟨fun h6=>retF (fun hc=>by have:=hc.dead (by simpa using h5); simp at h6; exact h6 this) x1,fun h6=>zero fun _=>by simpa using h6⟩,fun h5=>zero fun h6=>by simp at h5; omega⟩
 ·rintro m2 ⟨rfl,hd,h0⟩
  refine forI (n:=c.fields.length) (by omega) (fun k m'=>Ext m2 m'/\∀ w ∈ c.fields.take k,isWord h w/\(c.count < 0->w=0)) ⟨Ext.refl _,by simp⟩ ?_
  rintro k m3 I μ hk ⟨x3,hq⟩ next
  refine ⟨fun h5=>?_,fun h5=>?_⟩
  ·simp only [decide_eq_true_eq] at h5
   obtain ⟨w,hwk⟩:=q00 (l:=c.fields) (k:=k) (by omega)
   refine ⟨by omega,by omega,w,by simpa using (hf.ext (x1.trans x3)).at' hwk,(qlc (q0h.ext (x1.trans x3) hh) (hw w (q05 hwk))).thenS x3 hl fun b4 m4 hb4 x4 x14=>⟨b4,rfl,fun h6=>retF (fun hc=>nb hb4 h6 (hc.words w (q05 hwk)).1) (x1.trans x14),fun h6=>⟨fun h7=>⟨fun h8=>retF (fun hc=>?_) (x1.trans x14),fun h8=>?_⟩,fun h7=>?_⟩⟩⟩
   ·have:=(hc.words w (q05 hwk)).2 (by simpa using h7)
    simp at h8; exact h8 this
   ·exact next (by omega) m4 ⟨x14,q0f hwk hq ⟨yb hb4 h6,fun _=>by simpa using h8⟩⟩
   ·exact next (by omega) m4 ⟨x14,q0f hwk hq ⟨yb hb4 h6,fun h8=>by simp at h7; omega⟩⟩
  ·simp only [decide_eq_false_iff_not] at h5
   exact retT ⟨h1,⟨h2,h3⟩,by omega,hd,h0,q0w (by omega) hq⟩ (x1.trans x3)
def refsU (mk:Nat->Bool):Nat->List Cell->Nat->Int
 | _,[],_=>0
 | i,c :: h,a=>(if mk i=true then 0 else occ c.fields a)+refsU mk (i+1) h a
theorem qfw:∀ (i:Nat) (h:List Cell) (a:Nat),refsU (fun _=>false) i h a=refs h a
 | _,[],_=>rfl
 | i,c :: h,a=>by simp [refsU,refs,qfw (i+1) h a]
theorem qfz (mk:Nat->Bool):∀ (i:Nat) (h:List Cell) (a:Nat),0<=refsU mk i h a
 | _,[],_=>Int.le_refl 0
 | i,c :: h,a=>by have:=qfz mk (i+1) h a; have:=occ_nn c.fields a; simp only [refsU]; split <;> omega
theorem qrk (mk:Nat->Bool):∀ (i:Nat) (h:List Cell) (a:Nat),refsU mk i h a<=refs h a
 | _,[],_=>Int.le_refl 0
 | i,c :: h,a=>by have:=qrk mk (i+1) h a; have:=occ_nn c.fields a; simp only [refsU,refs]; split <;> omega
theorem qm4 {mk mk':Nat->Bool}:∀ {i:Nat} {h:List Cell} {a:Nat},(∀ j,i<=j->mk j=mk' j)->refsU mk i h a=refsU mk' i h a
 | _,[],_,_=>rfl
 | i,c :: h,a,hj=>by simp only [refsU]; rw [hj i (Nat.le_refl _),qm4 fun j h1=>hj j (by omega)]
theorem qq3 {mk:Nat->Bool}:∀ {i:Nat} {h:List Cell} {k:Nat} {c:Cell},h[k]?=some c->mk (i+k)=false->∀ a,refsU (setB mk (i+k)) i h a=refsU mk i h a - occ c.fields a
 | _,[],_,_,h,_,_=>by simp at h
 | i,d :: h,0,c,hc,hm,a=>by
  simp at hc; subst hc
  have e:=qm4 (mk:=setB mk i) (mk':=mk) (i:=i+1) (h:=h) (a:=a) fun j hj=>q5h (by omega)
  rw [Nat.add_zero] at hm ⊢
  simp only [refsU,qef,hm,e]; simp; omega
 | i,d :: h,k+1,c,hc,hm,a=>by
  have e:i+(k+1)=i+1+k:=by omega
  have:=qq3 (mk:=mk) (i:=i+1) (h:=h) (k:=k) (c:=c) (by simpa using hc) (by rw [← e]; exact hm) a
  simp only [refsU]
  rw [e,this,q5h (by omega)]; omega
theorem qr7 {mk:Nat->Bool}:∀ {i:Nat} {h:List Cell} {k:Nat} {c:Cell},h[k]?=some c->mk (i+k)=false->∀ a,occ c.fields a<=refsU mk i h a
 | _,[],_,_,h,_,_=>by simp at h
 | i,d :: h,0,c,hc,hm,a=>by
  simp at hc; subst hc
  have:=qfz mk (i+1) h a
  simp only [Nat.add_zero] at hm
  simp only [refsU,hm]; simp; omega
 | i,d :: h,k+1,c,hc,hm,a=>by
  have:=qr7 (mk:=mk) (i:=i+1) (h:=h) (k:=k) (c:=c) (by simpa using hc) (by rw [← hm]; congr 1; omega) a
  have:=occ_nn d.fields a
  simp only [refsU]; split <;> omega
theorem qqd {mk:Nat->Bool}:∀ {i:Nat} {h:List Cell} {a:Nat},0 < refsU mk i h a->∃ (k:Nat) (c:Cell),h[k]?=some c/\mk (i+k)=false/\(1000+(a:Int)) ∈ c.fields
 | _,[],_,h=>by simp [refsU] at h
 | i,d :: h,a,hp=>by
  simp only [refsU] at hp
  by_cases hq:mk i=false/\0 < occ d.fields a
  ·exact ⟨0,d,rfl,hq.1,qp9 hq.2⟩
  ·have:0 < refsU mk (i+1) h a:=by
    have:=occ_nn d.fields a
    split at hp
    ·omega
    ·rename_i hm
     have:¬ 0 < occ d.fields a:=fun h2=>hq ⟨by simpa using hm,h2⟩
     omega
   obtain ⟨k,c,h1,h2,h3⟩:=qqd this
   exact ⟨k+1,c,by simpa using h1,by rw [← h2]; congr 1; omega,h3⟩
def OrdM (h:List Cell) (mk:Nat->Bool):Prop :=
 ∃ t:Nat->Nat,(∀ j,mk j=true->t j<=cntB mk h.length)/\∀ (i:Nat) (c:Cell),h[i]?=some c->∀ w ∈ c.fields,1000<=w->mk (ix w)=true->mk i=true/\t i < t (ix w)
theorem OrdM.set {h:List Cell} {mk:Nat->Bool} (hm:OrdM h mk) {a:Nat} (hlt:a < h.length) (ha:mk a=false) (h0:refsU mk 0 h a=0):OrdM h (setB mk a):=by
 obtain ⟨t,h1,h2⟩:=hm
 have e:=qdf ha hlt
 have hrf:∀ (i:Nat) (c:Cell),h[i]?=some c->(1000+(a:Int)) ∈ c.fields->mk i=true:=fun i c hc hw=>by
  cases hi:mk i
  ·have g1:=qr7 (mk:=mk) (i:=0) hc (by rw [Nat.zero_add]; exact hi) a
   have g2:=q8x hw
   omega
  ·rfl
 refine ⟨fun x=>if x=a then cntB mk h.length+1 else t x,fun j hj=>?_,fun i c hc w hw hp hmk=>?_⟩
 ·simp only [e]
  split
  ·omega
  ·rename_i hja; rw [q5h hja] at hj; have:=h1 j hj; omega
 ·by_cases hwa:ix w=a
  ·have hi:=hrf i c hc (by rw [← hwa,ptr_ix hp]; exact hw)
   have hne:i ≠ a:=fun e2=>by rw [e2,ha] at hi; cases hi
   simp only [if_pos hwa,if_neg hne]
   exact ⟨qe7 hi,by have:=h1 i hi; omega⟩
  ·rw [q5h hwa] at hmk
   obtain ⟨q1,q2⟩:=h2 i c hc w hw hp hmk
   have hne:i ≠ a:=fun e2=>by rw [e2,ha] at q1; cases q1
   simp only [if_neg hwa,if_neg hne]
   exact ⟨qe7 q1,q2⟩
theorem qrq (f:Nat->Nat):∀ n,∃ B,∀ i,i < n->f i<=B
 | 0=>⟨0,fun i hi=>absurd hi (Nat.not_lt_zero _)⟩
 | n+1=>by
  obtain ⟨B,hB⟩:=qrq f n
  refine ⟨B+f n,fun i hi=>?_⟩
  rcases Nat.lt_or_ge i n with h | h
  ·have:=hB i h; omega
  ·have:i=n:=by omega
   subst this; omega
theorem qui {h:List Cell} {mk:Nat->Bool} (hm:OrdM h mk) (hlv:∀ c ∈ h,∀ w ∈ c.fields,1000<=w->ix w < h.length) (hend:∀ a,a < h.length->refsU mk 0 h a=0->mk a=true) :
  cntB mk h.length=h.length ↔ Acyc h:=by
 rw [qmq]
 constructor
 ·intro hall
  obtain ⟨t,h1,h2⟩:=hm
  refine ⟨fun x=>h.length - t x,fun i c hc w hw hp=>?_⟩
  have hw2:=hlv c (q05 hc) w hw hp
  have:=(h2 i c hc w hw hp (hall _ hw2)).2
  have:=h1 _ (hall _ hw2)
  have:=qfp mk h.length
  show h.length - t (ix w) < h.length - t i
  omega
 ·rintro ⟨rank,hr⟩
  obtain ⟨B,hB⟩:=qrq rank h.length
  have key:∀ (n i:Nat),B - rank i < n->i < h.length->mk i=true:=by
   intro n
   induction n with
   | zero=>intro i hi; omega
   | succ n ih =>
    intro i hi hlt
    refine hend i hlt (Int.le_antisymm (Int.not_lt.1 fun hp=>?_) (qfz _ _ _ _))
    obtain ⟨k,c,h1,h2,h3⟩:=qqd hp
    rw [Nat.zero_add] at h2
    have:=hr k c h1 _ h3 (by omega)
    rw [ix_ptr] at this
    have hk:=q04 h1
    have:=hB k hk
    rw [ih k (by omega) hk] at h2
    cases h2
  exact fun i hi=>key (B - rank i+1) i (by omega) hi
structure Kahn (h:List Cell) (mk:Nat->Bool) (W:List Nat) (lf:Nat->Int):Prop where
 nodup:W.Nodup
 un:∀ a ∈ W,a < h.length/\mk a=false
 zero:∀ a,a < h.length->(lf a=0 ↔ (mk a=true \/ a ∈ W))
theorem qgz:∀ (n:Nat) (W:List Nat),W.Nodup->(∀ a ∈ W,a < n)->W.length<=n
 | 0,[],_,_=>Nat.le_refl _
 | 0,a :: _,_,h=>absurd (h a (by simp)) (Nat.not_lt_zero _)
 | n+1,W,hd,h=>by
  by_cases hn:n ∈ W
  ·have h1:=qgz n (W.erase n) (hd.erase n) fun a ha=>by
    have:=hd.mem_erase_iff.1 ha
    have:=h a this.2
    omega
   rw [List.length_erase_of_mem hn] at h1; omega
  ·have:=qgz n W hd fun a ha=>by
    have:=h a ha
    have:a ≠ n:=fun e=>hn (e ▸ ha)
    omega
   omega
theorem Kahn.len {h:List Cell} {mk:Nat->Bool} {W:List Nat} {lf:Nat->Int} (K:Kahn h mk W lf):W.length<=h.length:=qgz _ _ K.nodup fun a ha=>(K.un a ha).1
theorem Kahn.pop {h:List Cell} {mk:Nat->Bool} {W:List Nat} {a:Nat} {lf:Nat->Int} (K:Kahn h mk (W ++ [a]) lf):Kahn h (setB mk a) W lf:=by
 obtain ⟨d1,d2,d3⟩:=List.nodup_append.1 K.nodup
 refine ⟨d1,fun x hx=>?_,fun x hx=>?_⟩
 ·have h1:=K.un x (List.mem_append_left _ hx)
  refine ⟨h1.1,?_⟩
  rw [q5h fun e=>d3 x hx a (by simp) e]; exact h1.2
 ·rw [K.zero x hx]
  by_cases e:x=a
  ·subst e; simp [qef]
  ·rw [q5h e]; simp [e]
theorem Kahn.step {h:List Cell} {mk:Nat->Bool} {W:List Nat} {lf lf':Nat->Int} (K:Kahn h mk W lf) {a:Nat} (ha:a < h.length) (he:∀ x,lf' x=if x=a then lf x - 1 else lf x) (hp:0 < lf a) :
  (lf' a=0->Kahn h mk (W ++ [a]) lf')/\(lf' a ≠ 0->Kahn h mk W lf'):=by
 have hna:mk a ≠ true/\a ∉ W:=by
  have:=(K.zero a ha).2
  constructor
  ·intro h1; have:=this (Or.inl h1); omega
  ·intro h1; have:=this (Or.inr h1); omega
 refine ⟨fun h0=>⟨?_,fun x hx=>?_,fun x hx=>?_⟩,fun h0=>⟨K.nodup,K.un,fun x hx=>?_⟩⟩
 ·rw [List.nodup_append]
  refine ⟨K.nodup,by simp,fun x hx y hy e=>?_⟩
  simp at hy; subst hy; subst e; exact hna.2 hx
 ·rcases List.mem_append.1 hx with hx | hx
  ·exact K.un x hx
  ·simp at hx; subst hx; exact ⟨ha,by simpa using hna.1⟩
 ·by_cases e:x=a
  ·subst e; simp [h0]
  ·rw [he x,if_neg e,K.zero x hx]; simp [e]
 ·by_cases e:x=a
  ·subst e
   constructor
   ·intro h1; exact absurd h1 h0
   ·rintro (h1 | h1)
    ·exact absurd h1 hna.1
    ·exact absurd h1 hna.2
  ·rw [he x,if_neg e,K.zero x hx]
end
section
def cst (W:List Nat):List Int:=W.map fun (a:Nat)=>(a:Int)
theorem qkh (W:List Nat):(cst W).length=W.length:=by simp [cst]
theorem qmm (W:List Nat) (a:Nat):cst (W ++ [a])=cst W ++ [(a:Int)]:=by simp [cst]
theorem tabAt {ro:Nat->Nat} {m:Mem} {k n:Nat} {s:Sl} {f:Nat->Int} (h:Arr ro m ty_int 1 k s ((tab n f).map Ce.i)) (hn:n<=9223372036854775807) {a:Nat} (ha:a < n):gcell m s.blk (s.off+Int.toNat (a:Int)*1)=some (vi (f a)):=by
 have:=(h.ints (by rw [q4w]; exact hn)).at' (q8z (f:=f) ha)
 simpa using this
theorem tabLen {ro:Nat->Nat} {m:Mem} {k n:Nat} {s:Sl} {f:Nat->Int} (h:Arr ro m ty_int 1 k s ((tab n f).map Ce.i)):s.len=n:=by have:=h.len; simp [q4w] at this; omega
theorem tabPut {ro:Nat->Nat} {m:Mem} {k n:Nat} {s:Sl} {f g:Nat->Int} (h:Arr ro m ty_int 1 k s ((tab n f).map Ce.i)) {a:Nat} (ha:a < n) {v:Int} (hg:∀ b,b < n->g b=if b=a then v else f b) (hnew:∀ b,m.size<=b->ro b=0) :
  wrOk m s.blk (s.off+Int.toNat (a:Int)*1) 1/\Arr ro (scells m s.blk (s.off+Int.toNat (a:Int)*1) [.i v]) ty_int 1 k s ((tab n g).map Ce.i)/\Chg (fun j=>j=k) ro m ro (scells m s.blk (s.off+Int.toNat (a:Int)*1) [.i v]):=by
 have h0:(0:Int)<=(a:Int):=by omega
 have h1:(a:Int) < ((tab n f).length:Nat):=by rw [q4w]; omega
 have h2:=h.setI h0 h1 v
 have e:setI (tab n f) (a:Int) v=tab n g:=by
  unfold setI
  rw [show Int.toNat (a:Int)=a by omega,qsc]
  exact q1i fun b hb=>(hg b hb).symm
 rw [e] at h2
 have hl:=tabLen h
 have hle:=h.le
 exact ⟨h.wrI h0 h1,h2,Chg.scells hnew (h.blk (by omega)).2 _ _⟩
def ChkR (m:Mem) (h:List Cell) (v:Value) (m':Mem):Prop:=∃ (s:Sl) (b:Bool),v=.tuple #[Sl.v s,vb b]/\(b=true ↔ HeapOk h) /\
 (b=true->∃ bb,s=.mk bb 0 h.length h.length/\m.size<=bb/\Blk m' bb ty_int ((tab h.length (refs h)).map Ce.i))/\Ext m m'
set_option maxHeartbeats 1000000 in
theorem qhl {m:Mem} {hp:Sl} {h:List Cell} (hh:q0h m hp h) (hfit:FitH h) (hsm:h.length<=1000000000):q08 Tryz.prog q6o [Sl.v hp] m (ChkR m h):=by
 apply qej
 simp -zeta only [q0a,q09,rI,rS,rB,cI,cB,cS,dI,dB,dS,gk,rg]
 have hl:=hh.len
 have en:Int.toNat (hp.len:Int)=h.length:=by omega
 rw [en]
 refine ⟨by omega,by omega,by omega,by omega,?_⟩
 intro m1
 have x1:Ext m m1:=(Ext.refl m).pushed _
 have B1:Blk m1 m.size ty_int ((tab h.length (fun _=>0)).map Ce.i):=tabNew m _
 clear_value m1
 have no:∀ {M:Mem},Ext m M->¬ HeapOk h->ChkR m h (.tuple #[Sl.v Sl.nil,vb false]) M:=fun hx hn=>⟨.nil,false,rfl,by simp [hn],by simp,hx⟩
 have en2:∀ n:Nat,Int.toNat (n:Int)=n:=fun n=>by omega
 simp -zeta only [Sl.len_mk,Sl.blk_mk,Sl.off_mk,Nat.zero_add]
 refine forI (n:=h.length) (by omega) (fun i m'=>Ext m m'/\Blk m' m.size ty_int ((tab h.length (fun a=>refs (h.take i) a)).map Ce.i)/\∀ c ∈ h.take i,CellV h c) ⟨x1,by simpa [refs] using B1,by simp⟩ ?_
 rintro i m2 I μ hi ⟨x2,B2,hv2⟩ next
 have lt2:=B2.lt
 have h3:∀ c ∈ h.take i,c.fields.length<=3:=fun c hm=>(hv2 c hm).fl
 refine ⟨fun h1=>?_,fun h1=>?_⟩
 ·simp only [decide_eq_true_eq] at h1
  obtain ⟨c,hci⟩:=q00 (l:=h) (k:=i) (by omega)
  have hcm:=q05 hci
  obtain ⟨f,hf,g0,g1,g2⟩:=(q0h.ext x2 hh).at' hci
  rw [en2]
  refine ⟨by omega,by omega,c.count,g0,c.tag,g1,f,g2,?_⟩
  intro m3 m4
  have x4:Ext m2 m4:=((Ext.refl m2).pushed _).scells (Nat.le_refl _) _ _
  have s4:m4.size=m2.size+1:=by simp [m4,m3,q02]
  clear_value m4
  refine (qlg (q0h.ext (x2.trans x4) hh) (hf.ext x4) (hfit c hcm)).thenS (Ext.refl _) (by simp; omega) fun b m5 hb x5 _=>⟨b,rfl,fun h2=>no ((x2.trans x4).trans x5) fun hk=>nb hb h2 (hk.cells c hcm).v,fun h2=>?_⟩
  have hcv:=yb hb h2
  have hcl:=hcv.fl
  have z5:=x5.size
  have B5:=B2.ext (x4.trans x5)
  have f5:=hf.ext (x4.trans x5)
  have X5:=(x2.trans x4).trans x5
  have hflen:=hf.len
  refine forI (n:=c.fields.length) (by omega) (fun k m'=>Ext m m'/\m2.size < m'.size/\q03 m' f c.fields/\Blk m' m.size ty_int ((tab h.length (fun a=>refs (h.take i) a+occ (c.fields.take k) a)).map Ce.i)) ⟨X5,by omega,f5,by simpa [occ] using B5⟩ ?_
  rintro k m6 J ν hk ⟨x6,z6,f6,B6⟩ next6
  refine ⟨fun h4=>?_,fun h4=>?_⟩
  ·simp only [decide_eq_true_eq] at h4
   obtain ⟨w,hw⟩:=q00 (l:=c.fields) (k:=k) (by omega)
   have hwm:=q05 hw
   have h64:=hfit c hcm w hwm
   refine ⟨by omega,by omega,w,by simpa using f6.at' hw,(q2f (q0h.ext x6 hh) h64.2).mono ?_⟩
   rintro _ m7 ⟨a,b7,rfl,hb7,ha7,x7⟩
   have z7:=x7.size
   refine ⟨x7.sam (by simp; omega),a,b7,rfl,fun h5=>?_,fun h5=>?_⟩
   ·have hlv:=hb7.1 h5
    have hlt:=q04 (q0i hlv).1
    have e1:=ha7 h5
    subst e1
    have B7:=B6.ext x7
    have q1:=qcr (h.take i) (ix w) h3
    have q2:=q3d (c.fields.take k) (ix w)
    have q3:=q60 (h.take i) (ix w)
    have q4:=occ_nn (c.fields.take k) (ix w)
    have q5:(h.take i).length<=h.length:=by simp; omega
    have q6:(c.fields.take k).length<=3:=by simp; omega
    rw [en2,Nat.mul_one]
    refine ⟨by omega,by omega,_,tabGet B7 hlt,by omega,by omega,tabWr B7 hlt,?_⟩
    rw [show w64 (refs (h.take i) (ix w)+occ (c.fields.take k) (ix w)+1)=refs (h.take i) (ix w)+occ (c.fields.take k) (ix w)+1 from q07 (by omega) (by omega)]
    have B8:=tabSet B7 (ix w) (refs (h.take i) (ix w)+occ (c.fields.take k) (ix w)+1)
    rw [q1i (g:=fun a=>refs (h.take i) a+occ (c.fields.take (k+1)) a)] at B8
    ·refine ⟨fun b hb=>q0n _ _ _ _ (by simp at hb; omega),next6 (by omega) _ ⟨(x6.trans x7).scells (Nat.le_refl _) _ _,by rw [q02]; omega,?_,B8⟩⟩
     obtain ⟨f0,hf0,_,_,w2⟩:=hh.at' hci
     have er:f0=f:=by have:=x2.gcell w2; rw [g2] at this; exact (Sl.v_inj.1 (Option.some.inj this)).symm
     subst er
     exact hf0.ext ((x6.trans x7).scells (Nat.le_refl _) _ _)
    ·intro b hb
     rw [q6q hw]
     by_cases e:b=ix w
     ·subst e; rw [if_pos rfl,if_pos (ptr_ix hlv.1).symm]; omega
     ·rw [if_neg e,if_neg (fun hw2=>e (by rw [hw2,ix_ptr]))]; omega
   ·refine next6 (by omega) m7 ⟨x6.trans x7,by omega,f6.ext x7,?_⟩
    have hno:w < 1000:=(hcv.cases hwm).resolve_left (fb hb7 h5)
    rw [q1i (g:=fun a=>refs (h.take i) a+occ (c.fields.take k) a)]
    ·exact B6.ext x7
    ·intro b hb; rw [q6q hw,if_neg (by omega)]; omega
  ·simp only [decide_eq_false_iff_not] at h4
   have ee:c.fields.take k=c.fields:=q0b (by omega)
   rw [ee] at B6
   refine next (by omega) m6 ⟨x6,?_,q0f hci hv2 hcv⟩
   rw [q1i (g:=fun a=>refs (h.take i) a+occ c.fields a)]
   ·exact B6
   ·intro b hb; exact qpt hci b
 simp only [decide_eq_false_iff_not] at h1
 have ei:h.take i=h:=q0b (by omega)
 rw [ei] at B2 hv2 h3
 clear next
 have hcase:∀ c ∈ h,∀ w ∈ c.fields,live h w \/ w < 1000:=fun c hc w hw=>(hv2 c hc).cases hw
 have hlv:∀ c ∈ h,∀ w ∈ c.fields,1000<=w->ix w < h.length:=fun c hm w hw hp=>by
  rcases hcase c hm w hw with h1 | h1
  ·exact q04 (q0i h1).1
  ·omega
 refine ⟨fun M=>m2=M/\Trimmed h,⟨fun h2=>?_,fun h2=>⟨rfl,fun c hc=>?_⟩⟩,?_⟩
 ·simp at h2
  rw [q07 (by omega) (by omega)]
  obtain ⟨c,hc⟩:=q00 (l:=h) (k:=h.length - 1) (by omega)
  obtain ⟨f,hf,g1,_,_⟩:=(q0h.ext x2 hh).at' hc
  have e:Int.toNat ((hp.len:Int) - 1)=h.length - 1:=by omega
  rw [e]
  refine ⟨by omega,by omega,c.count,g1,fun h3=>no x2 fun hk=>?_,fun h3=>⟨rfl,fun d hd=>?_⟩⟩
  ·exact hk.trimmed c hc (by simpa using h3)
  ·rw [hc] at hd; simp at hd; subst hd; simpa using h3
 ·have:=q04 hc; simp at h2; omega
 rintro _ ⟨rfl,htr⟩
 refine (q1k (tabInts B2 (by omega)) (by rw [q4w]; exact hsm)).mono ?_
 rintro _ m3 ⟨r,rfl,or,x3⟩
 have z3:=x3.size
 have B3:=B2.ext x3
 have X3:=x2.trans x3
 have zx2:=x2.size
 -- roles
 obtain ⟨ro3,hro3⟩:∃ ro3:Nat->Nat,ro3=fun b=>if r.isNil=false/\b=r.blk then 2 else if b=m.size then 1 else 0:=⟨_,rfl⟩
 have hrb:r.isNil=false->m2.size<=r.blk/\r.blk < m3.size:=fun hn=>by
  have hne:r ≠ .nil:=fun e=>by rw [e] at hn; simp at hn
  exact ⟨or.blk.resolve_left hne,or.lt.resolve_left hne⟩
 have ro3z:∀ b,b ≠ m.size->(r.isNil=false->b ≠ r.blk)->ro3 b=0:=fun b h4 h5=>by
  rw [hro3]; exact (if_neg fun hh=>h5 hh.1 hh.2).trans (if_neg h4)
 have ro3m:ro3 m.size=1:=by
  rw [hro3]; exact (if_neg fun hh=>by have:=hrb hh.1; omega).trans (if_pos rfl)
 have new3:∀ b,m3.size<=b->ro3 b=0:=fun b hb=>ro3z b (by omega) fun hn=>by have:=hrb hn; omega
 have base3:∀ b,b < m.size->ro3 b=0:=fun b hb=>ro3z b (by omega) fun hn=>by have:=hrb hn; omega
 have A3:Arr ro3 m3 ty_int 1 2 r ((tab h.length (refs h)).map Ce.i):=Arr.ofOwn or fun hne=>by
  rw [hro3]
  refine if_pos ⟨?_,rfl⟩
  cases r with
  | nil=>exact absurd rfl hne
  | _=>rfl
 have hrl:=tabLen A3
 clear hrb ro3z hro3
 have toT:∀ {ro ro':Nat->Nat} {M M':Mem},Chg (fun k=>k=2 \/ k=6) ro M ro' M'->To ro M ro' M':=fun hc=>hc.mono fun k hk=>by omega
 have baseOf:∀ {ro:Nat->Nat} {M:Mem},Chg (fun k=>k=2 \/ k=6) ro3 m3 ro M->Ext m M:=fun hc=>((toT hc).base X3 base3).1
 have refsOf:∀ {ro:Nat->Nat} {M:Mem},Chg (fun k=>k=2 \/ k=6) ro3 m3 ro M->Blk M m.size ty_int ((tab h.length (refs h)).map Ce.i):=fun hc=>B3.congr (hc.keep _ B3.lt (by rw [ro3m]; decide))
 have nil6:Arr ro3 m3 ty_int 1 6 .nil (([]:List Int).map Ce.i):=⟨by simp,by simp,Or.inl rfl⟩
 refine ⟨r,rfl,forSI (σ:=Sl) (n:=h.length) (by omega) (fun k work M=>∃ ro W,Chg (fun k=>k=2 \/ k=6) ro3 m3 ro M/\Arr ro M ty_int 1 2 r ((tab h.length (refs h)).map Ce.i)/\Arr ro M ty_int 1 6 work ((cst W).map Ce.i)/\W.Nodup/\(∀ a ∈ W,a < k)/\(∀ a,a < k->(refs h a=0 ↔ a ∈ W)) /\
  ∀ (a:Nat) (c:Cell),a < k->h[a]?=some c->0 < c.count->refs h a<=c.count/\c.count<=999999) ⟨ro3,[],Chg.refl _ new3,A3,nil6,by simp,by simp,by simp,by simp⟩ ?_⟩
 rintro k work m4 I2 μ2 hk ⟨ro4,W,C4,A4,W4,hnd,hwl,hwz,hcnt⟩ next
 have X4:=baseOf C4
 refine ⟨fun h4=>?_,fun h4=>?_⟩
 ·simp only [decide_eq_true_eq] at h4
  have hkl:k < h.length:=by omega
  obtain ⟨c,hck⟩:=q00 hkl
  obtain ⟨f,hf,g0,g1,g2⟩:=(q0h.ext X4 hh).at' hck
  rw [en2]
  refine ⟨by omega,by omega,c.count,g0,c.tag,g1,f,g2,?_⟩
  intro m5 m6
  have x6:Ext m4 m6:=((Ext.refl m4).pushed _).scells (Nat.le_refl _) _ _
  have s6:m6.size=m4.size+1:=by simp [m6,m5,q02]
  clear_value m6
  have C6':Chg (fun k=>k=2 \/ k=6) ro4 m4 ro4 m6:=Chg.ofExt _ x6 C4.new
  have C6:=C4.trans C6'
  have F6:Chg (fun _=>False) ro4 m4 ro4 m6:=Chg.ofExt _ x6 C4.new
  have A6:=A4.chg F6 id
  have W6:=W4.chg F6 id
  have g6:=tabGet (refsOf C6) hkl
  have more:(0 < c.count->refs h k<=c.count/\c.count<=999999)->∀ (a:Nat) (c:Cell),a < k+1->h[a]?=some c->0 < c.count->refs h a<=c.count/\c.count<=999999:=fun hn a d ha hd=>by
   rcases Nat.lt_or_ge a k with h6 | h6
   ·exact hcnt a d h6 hd
   ·have:a=k:=by omega
    subst this
    rw [hck] at hd; simp at hd; subst hd; exact hn
  have rest:(0 < c.count->refs h k<=c.count/\c.count<=999999)->((0:Int)<=k/\(k:Int) < (h.length:Int)/\∃ v98:Int,gcell m6 m.size (k*1)=some (vi v98) /\
    ((v98 == (0:Int))=true->let m1_13:Mem:=m6.push (.cells (vals [.i (k:Int)]) 3)
     appC m1_13 3 [.i (0:Int)] 8 work (Sl.mk m6.size 0 1 1) fun r103 m1_14=>Sam [m4.size] m1_13 m1_14/\I2 r103 (w64 ((k:Int)+(1:Int))) m1_14/\μ2 r103 (w64 ((k:Int)+(1:Int))) m1_14 < μ2 work k m4) /\
    ((v98 == (0:Int))=false->I2 work (w64 ((k:Int)+(1:Int))) m6/\μ2 work (w64 ((k:Int)+(1:Int))) m6 < μ2 work k m4)):=fun hn=>by
   refine ⟨by omega,by omega,_,by rw [Nat.mul_one]; exact g6,fun h7=>?_,fun h7=>?_⟩
   ·intro m7
    have x7:Ext m6 m7:=(Ext.refl m6).pushed _
    have k7:Blk m7 m6.size 3 [.i (k:Int)]:=Blk.push m6 _ _
    have s7:m7.size=m6.size+1:=by simp [m7]
    have F7:Chg (fun _=>False) ro4 m6 ro4 m7:=Chg.ofExt _ x7 C6.new
    have C7:Chg (fun k=>k=2 \/ k=6) ro3 m3 ro4 m7:=C6.trans (Chg.ofExt _ x7 C6.new)
    have hWl:=W6.len
    simp [qkh] at hWl
    have hW2:W.length<=h.length:=qgz _ _ hnd fun a ha=>by have:=hwl a ha; omega
    refine Arr.append (zs:=[.i 0]) (new:=[.i (k:Int)]) (W6.chg F7 id) C7.new (by simp) k7.row (by simp only [Sl.len_mk]; omega) fun ro8 q m8 a8 c8=>⟨?_,?_⟩
    ·exact (toT (c8.mono fun j hj=>Or.inr hj)).sam (by simp; exact ⟨by omega,C4.new _ (Nat.le_refl _)⟩)
    ·refine next (by omega) _ _ ⟨ro8,W ++ [k],C7.trans (c8.mono fun j hj=>Or.inr hj),(A6.chg F7 id).chg c8 (by decide),by rw [qmm]; simpa using a8,?_,fun a ha=>?_,fun a ha=>?_,more hn⟩
     ·rw [List.nodup_append]
      refine ⟨hnd,by simp,fun x hx y hy e=>?_⟩
      simp at hy; subst hy; subst e; have:=hwl _ hx; omega
     ·rcases List.mem_append.1 ha with ha | ha
      ·have:=hwl a ha; omega
      ·simp at ha; omega
     ·rcases Nat.lt_or_ge a k with h8 | h8
      ·rw [hwz a h8]; simp; omega
      ·have:a=k:=by omega
       subst this
       simp at h7; simp [h7]
   ·refine next (by omega) _ _ ⟨ro4,W,C6,A6,W6,hnd,fun a ha=>by have:=hwl a ha; omega,fun a ha=>?_,more hn⟩
    rcases Nat.lt_or_ge a k with h8 | h8
    ·exact hwz a h8
    ·have:a=k:=by omega
     subst this
     simp at h7
     simp only [h7,false_iff]
     intro hm; have:=hwl _ hm; omega
  refine ⟨fun h5=>⟨by omega,by omega,_,by rw [Nat.mul_one]; exact g6,fun h6=>no (X4.trans x6) fun hk=>?_,fun h6=>⟨fun h7=>no (X4.trans x6) fun hk=>?_,fun h7=>rest fun _=>by simp at h6 h7; omega⟩⟩,fun h5=>rest fun h6=>by simp at h5; omega⟩
  ·have:=hk.refs k c hck (by simpa using h5)
   simp at h6; omega
  ·have:=(hk.cells c (q05 hck)).hi
   simp at h7; omega
 simp only [decide_eq_false_iff_not] at h4
 have hkn:k=h.length:=by omega
 subst hkn
 clear next h4
 have hcells:∀ c ∈ h,CellOk h c:=fun c hc=>by
  obtain ⟨a,ha⟩:=List.mem_iff_getElem?.1 hc
  refine (hv2 c hc).ok ?_
  rcases Int.lt_or_le 0 c.count with hp | hp
  ·exact (hcnt a c (q04 ha) ha hp).2
  ·omega
 have hrefs:∀ (a:Nat) (c:Cell),h[a]?=some c->0 < c.count->refs h a<=c.count:=fun a c ha hp=>(hcnt a c (q04 ha) ha hp).1
 have hlim:∀ mk a,refsU mk 0 h a<=3*h.length:=fun mk a=>by
  have:=qrk mk 0 h a
  have:=qcr h a fun c hm=>(hv2 c hm).fl
  omega
 have K0:Kahn h (fun _=>false) W (refsU (fun _=>false) 0 h):=⟨hnd,fun a ha=>⟨hwl a ha,rfl⟩,fun a ha=>by rw [qfw,hwz a ha]; simp⟩
 have c0:cntB (fun _=>false) h.length=0:=by
  generalize h.length=n
  induction n with
  | zero=>rfl
  | succ n ih=>simp [cntB,ih]
 refine whileG2 (γ:=(Nat->Bool) × List Nat) (fun g work many M=>∃ ro,many=(cntB g.1 h.length:Nat)/\Chg (fun k=>k=2 \/ k=6) ro3 m3 ro M/\Arr ro M ty_int 1 2 r ((tab h.length (refsU g.1 0 h)).map Ce.i)/\Arr ro M ty_int 1 6 work ((cst g.2).map Ce.i)/\Kahn h g.1 g.2 (refsU g.1 0 h)/\OrdM h g.1)
  (fun g=>h.length - cntB g.1 h.length) (fun _=>false,W) ⟨ro4,by rw [c0]; rfl,C4,by rw [q1i (g:=refs h) fun b _=>qfw 0 h b]; exact A4,W4,K0,fun _=>0,by simp,by simp⟩ ?_
 clear C4 A4 W4 K0 c0 X4 hnd hwl hwz hcnt
 rintro ⟨mk,W⟩ work many m5 I3 μ3 ⟨ro5,rfl,C5,A5,W5,K5,O5⟩ next
 simp only at A5 W5 K5 O5 next
 have X5:=baseOf C5
 have hWl:=W5.len
 simp [qkh] at hWl
 have hWh:=K5.len
 refine ⟨fun h5=>?_,fun h5=>?_⟩
 ·simp only [gt_iff_lt,decide_eq_true_eq] at h5
  have hne:W ≠ []:=fun e=>by subst e; simp at hWl; omega
  obtain ⟨W',a,rfl⟩:∃ W' a,W=W' ++ [a]:=⟨W.dropLast,W.getLast hne,(List.dropLast_concat_getLast hne).symm⟩
  rw [qmm] at W5
  obtain ⟨p1,p2,p3⟩:=W5.pop
  rw [qkh] at p1 p2 p3
  have e1:w64 ((work.len:Int) - 1)=(W'.length:Int):=by rw [q07 (by omega) (by omega)]; omega
  obtain ⟨hal,ham⟩:=K5.un a (by simp)
  obtain ⟨c,hca⟩:=q00 hal
  have hcm:=q05 hca
  have hcl:=(hv2 c hcm).fl
  obtain ⟨f,hf,g0,g1,g2⟩:=(q0h.ext X5 hh).at' hca
  rw [e1,en2]
  have hwle:=W5.le
  refine ⟨by omega,by omega,a,p2,by omega,by omega,?_⟩
  rw [en2]
  refine ⟨c.count,g0,c.tag,g1,f,g2,?_⟩
  intro m6 m7
  have x7:Ext m5 m7:=((Ext.refl m5).pushed _).scells (Nat.le_refl _) _ _
  have s7:m7.size=m5.size+1:=by simp [m7,m6,q02]
  clear_value m7
  have F7:Chg (fun _=>False) ro5 m5 ro5 m7:=Chg.ofExt _ x7 C5.new
  have C7:Chg (fun k=>k=2 \/ k=6) ro3 m3 ro5 m7:=C5.trans (Chg.ofExt _ x7 C5.new)
  have hfl:=hf.len
  have hz:refsU mk 0 h a=0:=(K5.zero a hal).2 (Or.inr (by simp))
  have O7:=O5.set hal ham hz
  have hset:=fun x=>qq3 (mk:=mk) (i:=0) hca (by rw [Nat.zero_add]; exact ham) x
  simp only [Nat.zero_add] at hset
  have es:=qdf ham hal
  have hcle:=qfp (setB mk a) h.length
  have K7:Kahn h (setB mk a) W' (fun x=>refsU (setB mk a) 0 h x+occ (c.fields.drop 0) x):=by
   have:=K5.pop
   refine ⟨this.nodup,this.un,fun x hx=>?_⟩
   rw [← this.zero x hx,hset,List.drop_zero]
   constructor <;> intro h <;> omega
  refine ⟨by omega,by omega,by omega,forSI (σ:=Sl) (n:=c.fields.length) (by omega) (fun j wk M=>∃ ro W2,Chg (fun k=>k=2 \/ k=6) ro5 m7 ro M/\Arr ro M ty_int 1 2 r ((tab h.length (fun x=>refsU (setB mk a) 0 h x+occ (c.fields.drop j) x)).map Ce.i)/\Arr ro M ty_int 1 6 wk ((cst W2).map Ce.i)/\Kahn h (setB mk a) W2 (fun x=>refsU (setB mk a) 0 h x+occ (c.fields.drop j) x))
   ⟨ro5,W',Chg.refl _ C7.new,?_,?_,K7⟩ ?_⟩
  ·have:=A5.chg F7 id
   rw [q1i (g:=refsU mk 0 h) fun b _=>by simp only [hset,List.drop_zero]; omega]; exact this
  ·exact p3.chg F7 id
  rintro j wk m8 I4 μ4 hj ⟨ro8,W2,C8,A8,W8,K8⟩ next8
  have X8:=baseOf (C7.trans C8)
  have T8:=toT C8
  have r7:m5.size < m8.size/\ro8 m5.size=0:=⟨by have:=C8.size; omega,by rw [C8.role _ (by omega)]; exact C5.new _ (Nat.le_refl _)⟩
  refine ⟨fun h6=>?_,fun h6=>?_⟩
  ·simp only [decide_eq_true_eq] at h6
   obtain ⟨w,hw⟩:=q00 (l:=c.fields) (k:=j) (by omega)
   have hwm:=q05 hw
   have h64:=hfit c hcm w hwm
   have hdrop:c.fields.drop j=w :: c.fields.drop (j+1):=by
    rw [List.drop_eq_getElem_cons (q04 hw)]
    congr 1
    exact (List.getElem?_eq_some_iff.1 hw).2
   obtain ⟨f0,hf0,_,_,w2⟩:=hh.at' hca
   have er:f0=f:=by have:=X5.gcell w2; rw [g2] at this; exact (Sl.v_inj.1 (Option.some.inj this)).symm
   subst er
   refine ⟨by omega,by omega,w,by simpa using (hf0.ext X8).at' hw,(q2f (q0h.ext X8 hh) h64.2).mono ?_⟩
   rintro _ m9 ⟨q,b9,rfl,hb9,hq9,x9⟩
   have z9:=x9.size
   have F9:Chg (fun _=>False) ro8 m8 ro8 m9:=Chg.ofExt _ x9 C8.new
   have C9:Chg (fun k=>k=2 \/ k=6) ro5 m7 ro8 m9:=C8.trans (Chg.ofExt _ x9 C8.new)
   have A9:=A8.chg F9 id
   have W9:=W8.chg F9 id
   refine ⟨x9.sam (by simp; omega),q,b9,rfl,fun h7=>?_,fun h7=>?_⟩
   ·have hlv:=hb9.1 h7
    have hlt:=q04 (q0i hlv).1
    have e9:=hq9 h7
    subst e9
    have hocc:∀ x,occ (c.fields.drop j) x=(if x=ix w then 1 else 0)+occ (c.fields.drop (j+1)) x:=fun x=>by rw [hdrop,q2s hlv.1]
    have ha0:=hocc (ix w)
    rw [if_pos rfl] at ha0
    have n1:=qfz (setB mk a) 0 h (ix w)
    have n2:=hlim (setB mk a) (ix w)
    have n3:=occ_nn (c.fields.drop (j+1)) (ix w)
    have n4:=q3d (c.fields.drop (j+1)) (ix w)
    have n5:(c.fields.drop (j+1)).length<=3:=by simp; omega
    obtain ⟨u1,u2,u3⟩:=tabPut (f:=fun x=>refsU (setB mk a) 0 h x+occ (c.fields.drop j) x) (g:=fun x=>refsU (setB mk a) 0 h x+occ (c.fields.drop (j+1)) x) A9 hlt (v:=refsU (setB mk a) 0 h (ix w)+occ (c.fields.drop (j+1)) (ix w)) (fun b _=>by
     rw [hocc]
     by_cases e:b=ix w
     ·subst e; rw [if_pos rfl]
     ·rw [if_neg e,if_neg e]; omega) C9.new
    refine ⟨by omega,by omega,_,tabAt A9 (by omega) hlt,by omega,by omega,u1,?_⟩
    rw [show w64 (refsU (setB mk a) 0 h (ix w)+occ (c.fields.drop j) (ix w) - 1)=refsU (setB mk a) 0 h (ix w)+occ (c.fields.drop (j+1)) (ix w) by rw [q07 (by omega) (by omega)]; omega]
    intro m10
    have C10:Chg (fun k=>k=2 \/ k=6) ro5 m7 ro8 m10:=C9.trans (u3.mono fun k hk=>Or.inl hk)
    have s10:m10.size=m9.size:=q02 _ _ _ _
    have W10:Arr ro8 m10 ty_int 1 6 wk ((cst W2).map Ce.i):=W9.chg u3 (by decide)
    obtain ⟨v1,v2⟩:=K8.step (lf':=fun x=>refsU (setB mk a) 0 h x+occ (c.fields.drop (j+1)) x) hlt (fun x=>by
     rw [hocc]
     split <;> omega) (show 0 < refsU (setB mk a) 0 h (ix w)+occ (c.fields.drop j) (ix w) by omega)
    have T10:To ro8 m9 ro8 m10:=u3.mono fun k hk=>by omega
    have u2':Arr ro8 m10 ty_int 1 2 r ((tab h.length (fun x=>refsU (setB mk a) 0 h x+occ (c.fields.drop (j+1)) x)).map Ce.i):=u2
    clear_value m10
    clear u2
    refine ⟨T10.sam (by simp; exact ⟨by omega,r7.2⟩),by omega,by omega,_,tabAt u2' (by omega) hlt,fun h8=>?_,fun h8=>?_⟩
    ·intro m11
     have x11:Ext m10 m11:=(Ext.refl m10).pushed _
     have k11:Blk m11 m10.size 3 [.i (ix w:Int)]:=Blk.push m10 _ _
     have s11:m11.size=m10.size+1:=by simp [m11]
     have F11:Chg (fun _=>False) ro8 m10 ro8 m11:=Chg.ofExt _ x11 C10.new
     have C11:Chg (fun k=>k=2 \/ k=6) ro5 m7 ro8 m11:=C10.trans (Chg.ofExt _ x11 C10.new)
     have hl2:=W10.len
     simp [qkh] at hl2
     have hl3:=K8.len
     refine Arr.append (zs:=[.i 0]) (new:=[.i (ix w:Int)]) (W10.chg F11 id) C11.new (by simp) k11.row (by simp only [Sl.len_mk]; omega) fun ro12 q2 m12 a12 c12=>⟨?_,?_⟩
     ·exact (toT (c12.mono fun j hj=>Or.inr hj)).sam (by simp; exact ⟨by omega,r7.2⟩)
     ·exact next8 (by omega) _ _ ⟨ro12,W2 ++ [ix w],C11.trans (c12.mono fun j hj=>Or.inr hj),(u2'.chg F11 id).chg c12 (by decide),by rw [qmm]; simpa using a12,v1 (by simpa using h8)⟩
    ·exact next8 (by omega) _ _ ⟨ro8,W2,C10,u2',W10,v2 (by simpa using h8)⟩
   ·have hno:w < 1000:=(hcase c hcm w hwm).resolve_left (fb hb9 h7)
    have hocc:∀ x,occ (c.fields.drop (j+1)) x=occ (c.fields.drop j) x:=fun x=>by
     rw [hdrop]; simp only [occ]; rw [if_neg (by omega)]; omega
    refine next8 (by omega) _ _ ⟨ro8,W2,C9,?_,W9,?_⟩
    ·rw [q1i (g:=fun x=>refsU (setB mk a) 0 h x+occ (c.fields.drop j) x) fun b _=>by rw [hocc]]; exact A9
    ·exact ⟨K8.nodup,K8.un,fun x hx=>by rw [hocc]; exact K8.zero x hx⟩
  ·simp only [decide_eq_false_iff_not] at h6
   have ed:c.fields.drop j=[]:=List.drop_of_length_le (by omega)
   have e0:∀ x,refsU (setB mk a) 0 h x+occ (c.fields.drop j) x=refsU (setB mk a) 0 h x:=fun x=>by rw [ed]; simp [occ]
   rw [show w64 ((cntB mk h.length:Nat)+1:Int)=((cntB (setB mk a) h.length:Nat):Int) by rw [es,q07 (by omega) (by omega)]; omega]
   refine next (setB mk a,W2) _ _ m8 ⟨ro8,rfl,C7.trans C8,?_,W8,⟨K8.nodup,K8.un,fun x hx=>by have:=K8.zero x hx; rw [e0] at this; exact this⟩,O7⟩ (by simp only []; omega)
   rw [q1i (g:=fun x=>refsU (setB mk a) 0 h x+occ (c.fields.drop j) x) fun b _=>(e0 b).symm]; exact A8
 ·simp only [gt_iff_lt,decide_eq_false_iff_not] at h5
  have hW0:W=[]:=List.length_eq_zero_iff.1 (by omega)
  subst hW0
  have hac:=qui O5 hlv fun a ha h0=>((K5.zero a ha).1 h0).resolve_right (by simp)
  refine ⟨_,_,rfl,?_,fun _=>⟨m.size,rfl,Nat.le_refl _,refsOf C5⟩,X5⟩
  rw [beq_iff_eq,show ((cntB mk h.length:Nat):Int)=(hp.len:Int) ↔ cntB mk h.length=h.length by omega,hac]
  exact ⟨fun ha=>⟨htr,hcells,hrefs,ha⟩,fun hk=>hk.acyc⟩
end
section
structure FrmV (im:Image) (f:Frame):Prop where
 proc:0<=f.proc/\f.proc < im.procs.length
 pc:0<=f.pc/\f.pc < (q0y im f.proc).code.length
 lr:(f.regs.length:Int)=(q0y im f.proc).regs
 lo:(f.own.length:Int)=(q0y im f.proc).regs
 lh:(f.held.length:Int)=(q0y im f.proc).regs
 each:∀ (k:Nat) (w o:Int),f.regs[k]?=some w->f.own[k]?=some o->(isInt w \/ 1000<=w)/\(0<=o/\o<=999999)
theorem FrmV.own {im:Image} {f:Frame} (h:FrmV im f):∀ o ∈ f.own,0<=o/\o<=999999:=fun o ho=>by
 obtain ⟨k,hk⟩:=List.mem_iff_getElem?.1 ho
 have:=q04 hk
 have h1:=h.lr
 have h2:=h.lo
 obtain ⟨w,hw⟩:=q00 (l:=f.regs) (k:=k) (by omega)
 exact (h.each k w o hw hk).2
theorem qje {m:Mem} {d p r o e:Sl} {im:Image} {f:Frame} (him:ImageR m d p im) (hr:q03 m r f.regs) (ho:q03 m o f.own) (he:q03 m e f.held) :
  q0o Tryz.prog q7c [.agg #[Sl.v d,Sl.v p],.agg #[vi f.proc,vi f.pc,vi f.dst,Sl.v r,Sl.v o,Sl.v e]] m (FrmV im f):=by
 apply qfe
 simp -zeta only [q0a,q09,rI,rS,rB,cI,cB,cS,dI,dB,dS,gk,rg]
 intro m1 m2
 have x2:Ext m m2:=((Ext.refl m).pushed _).pushed _
 have s1:m1.size=m.size+1:=by simp [m1]
 have s2:m2.size=m.size+2:=by simp [m2,s1]
 clear_value m2
 have hpl:=him.procs.len
 have hrl:=hr.len
 have hol:=ho.len
 have hel:=he.len
 have hrlim:=hr.lim
 refine ⟨fun h1=>retF (fun hk=>by have:=hk.proc; simp at h1; omega) x2,fun h1=>⟨fun h2=>retF (fun hk=>by have:=hk.proc; simp at h2; omega) x2,fun h2=>?_⟩⟩
 simp at h1 h2
 obtain ⟨q,hq⟩:=q00 (l:=im.procs) (k:=f.proc.toNat) (by omega)
 have hqe:q0y im f.proc=q:=by simp [q0y,hq]
 obtain ⟨pa,pl,pc,hpa,hpl',hpc,k0,k1,k2,k3,k4⟩:=(him.ext x2).procs.at' hq
 have hpcl:=hpc.len
 refine ⟨h1,by omega,pa,k0,pl,k1,_,k2,_,k3,pc,k4,?_⟩
 intro m3 m4
 have x4:Ext m2 m4:=((Ext.refl m2).pushed _).scells (Nat.le_refl _) _ _
 have s4:m4.size=m2.size+1:=by simp [m4,m3,q02]
 clear_value m4
 have X4:=x2.trans x4
 have hl:∀ b ∈ [m2.size,m1.size,m.size],b < m4.size:=by simp; omega
 refine ⟨fun h3=>retF (fun hk=>by have:=hk.pc; simp at h3; omega) X4,fun h3=>⟨fun h4=>retF (fun hk=>by have:=hk.pc; rw [hqe] at this; simp at h4; omega) X4,fun h4=>⟨fun h5=>retF (fun hk=>by have:=hk.lr; rw [hqe] at this; simp at h5; omega) X4,fun h5=>⟨fun h6=>retF (fun hk=>by have:=hk.lo; rw [hqe] at this; simp at h6; omega) X4,fun h6=>⟨fun h7=>retF (fun hk=>by have:=hk.lh; rw [hqe] at this; simp at h7; omega) X4,fun h7=>?_⟩⟩⟩⟩⟩
 simp at h3 h4 h5 h6 h7
 refine forI (n:=f.regs.length) (by omega) (fun k m'=>Ext m4 m'/\∀ (j:Nat) (w o:Int),j < k->f.regs[j]?=some w->f.own[j]?=some o->(isInt w \/ 1000<=w)/\(0<=o/\o<=999999)) ⟨Ext.refl _,fun j w o hj=>absurd hj (Nat.not_lt_zero _)⟩ ?_
 rintro k m5 I μ hk ⟨x5,hq5⟩ next
 refine ⟨fun h8=>?_,fun h8=>?_⟩
 ·simp only [decide_eq_true_eq] at h8
  obtain ⟨w,hw⟩:=q00 (l:=f.regs) (k:=k) (by omega)
  obtain ⟨n,hn⟩:=q00 (l:=f.own) (k:=k) (by omega)
  refine ⟨by omega,by omega,w,by simpa using (hr.ext (X4.trans x5)).at' hw,(q7y w m5).thenS x5 hl fun b6 m6 hb6 x56 x6=>⟨b6,rfl,?_⟩⟩
  have hn6:gcell m6 o.blk (o.off+Int.toNat (k:Int)*1)=some (vi n):=by simpa using (ho.ext (X4.trans x6)).at' hn
  have rest:(isInt w \/ 1000<=w)->(0:Int)<=k/\(k:Int) < (o.len:Int)/\∃ v80:Int,gcell m6 o.blk (o.off+Int.toNat (k:Int)*1)=some (vi v80)/\((decide (v80 < (0:Int)))=true->∃ b':Bool,vb false=.bool b'/\(b'=true ↔ FrmV im f)/\Ext m m6) /\
    ((decide (v80 < (0:Int)))=false->(0:Int)<=k/\(k:Int) < (o.len:Int)/\∃ v88:Int,gcell m6 o.blk (o.off+Int.toNat (k:Int)*1)=some (vi v88)/\((decide (v88 > (999999:Int)))=true->∃ b':Bool,vb false=.bool b'/\(b'=true ↔ FrmV im f)/\Ext m m6) /\
    ((decide (v88 > (999999:Int)))=false->I (w64 ((k:Int)+(1:Int))) m6/\μ (w64 ((k:Int)+(1:Int))) m6 < μ k m5)):=fun hi =>
   ⟨by omega,by omega,n,hn6,fun h9=>retF (fun hk=>by have:=(hk.each k w n hw hn).2; simp at h9; omega) (X4.trans x6),fun h9=>⟨by omega,by omega,n,hn6,fun h10=>retF (fun hk=>by have:=(hk.each k w n hw hn).2; simp at h10; omega) (X4.trans x6),fun h10=>next (by omega) _ ⟨x6,fun j w' o' hj hw' ho'=>by
    rcases Nat.lt_or_ge j k with h11 | h11
    ·exact hq5 j w' o' h11 hw' ho'
    ·have:j=k:=by omega
     subst this
     rw [hw] at hw'; rw [hn] at ho'; simp at hw' ho'; subst hw'; subst ho'
     simp at h9 h10; exact ⟨hi,by omega⟩⟩⟩⟩
  refine ⟨fun h9=>⟨fun h10=>retF (fun hk=>?_) (X4.trans x6),fun h10=>rest (Or.inr (by simp at h10; omega))⟩,fun h9=>rest (Or.inl (yb hb6 h9))⟩
  rcases (hk.each k w n hw hn).1 with h11 | h11
  ·exact nb hb6 h9 h11
  ·simp at h10; omega
 ·simp only [decide_eq_false_iff_not] at h8
  refine retT ⟨by omega,by rw [hqe]; omega,by rw [hqe]; omega,by rw [hqe]; omega,by rw [hqe]; omega,fun j w o hw ho=>hq5 j w o (by have:=q04 hw; omega) hw ho⟩ (X4.trans x5)
structure Two (a b:Nat) (m m':Mem):Prop where
 size:m.size<=m'.size
 same:∀ c,c < m.size->c ≠ a->c ≠ b->m'[c]?=m[c]?
theorem Two.refl (a b:Nat) (m:Mem):Two a b m m:=⟨Nat.le_refl _,fun _ _ _ _=>rfl⟩
theorem Two.ext {a b:Nat} {m m1 m2:Mem} (h:Two a b m m1) (hx:Ext m1 m2):Two a b m m2:=⟨Nat.le_trans h.size hx.size,fun c hc h1 h2=>by rw [hx.same c (Nat.lt_of_lt_of_le hc h.size)]; exact h.same c hc h1 h2⟩
theorem Two.trans {a b:Nat} {m m1 m2:Mem} (h:Two a b m m1) (hx:Two a b m1 m2):Two a b m m2:=⟨Nat.le_trans h.size hx.size,fun c hc h1 h2=>by rw [hx.same c (Nat.lt_of_lt_of_le hc h.size) h1 h2]; exact h.same c hc h1 h2⟩
theorem Two.scells {a b:Nat} {m m1:Mem} (h:Two a b m m1) {c:Nat} (hc:c=a \/ c=b) (o:Nat) (l:List Ce):Two a b m (scells m1 c o l) :=
 ⟨by rw [q02]; exact h.size,fun x hx h1 h2=>by rw [q0n l m1 c o (by rcases hc with e | e <;> rw [e] <;> assumption)]; exact h.same x hx h1 h2⟩
theorem Two.toExt {a b:Nat} {m0 m m':Mem} (h:Two a b m m') (hx:Ext m0 m) (ha:m0.size<=a) (hb:m0.size<=b):Ext m0 m' :=
 ⟨Nat.le_trans hx.size h.size,fun c hc=>by rw [h.same c (hx.lt hc) (by omega) (by omega)]; exact hx.same c hc⟩
structure TalV (h:List Cell) (f:Frame):Prop where
 own:∀ (k:Nat) (w o:Int),f.regs[k]?=some w->f.own[k]?=some o->0 < o->live h w
 held:∀ w ∈ f.held,w ≠ 0->1000<=w/\∃ c,h[ix w]?=some c/\c.count < 0
theorem qu8 {w:Int} {n:Nat} (hw:In64 w) (hn:n<=1000000000):(0<=w64 (w - 1000)/\w64 (w - 1000) < n) ↔ (1000<=w/\ix w < n):=by
 obtain ⟨h1,h2⟩:=hw
 rcases Int.lt_or_le w (-9223372036854774808) with h3 | h3
 ·have e:w64 (w - 1000)=w - 1000+18446744073709551616:=by
   unfold w64; rw [IntKind.wrap_i64]; omega
  unfold ix; rw [e]; constructor <;> intro h <;> omega
 ·unfold ix; rw [q07 (by omega) (by omega)]; omega
structure Tab2 (m:Mem) (ob hb n:Nat) (fo fh:Nat->Int):Prop where
 own:Blk m ob ty_int ((tab n fo).map Ce.i)
 held:Blk m hb ty_int ((tab n fh).map Ce.i)
 ne:ob ≠ hb
set_option maxHeartbeats 1000000 in
theorem qql {m:Mem} {hp r o e:Sl} {h:List Cell} {f:Frame} {ob hb:Nat} {fo fh:Nat->Int} {m0:Mem} (x0:Ext m0 m) (hh:q0h m0 hp h) (hr:q03 m0 r f.regs) (ho:q03 m0 o f.own) (he:q03 m0 e f.held) (hob:m0.size<=ob) (hhb:m0.size<=hb) (T:Tab2 m ob hb h.length fo fh)
  (hfit:FitF f) (hsm:h.length<=1000000000) (hlen:f.regs.length=f.own.length/\f.held.length=f.own.length/\f.own.length<=10000000) (hown:∀ o ∈ f.own,0<=o/\o<=999999) (hfo:∀ a,0<=fo a/\fo a<=1000000000000000) (hfh:∀ a,0<=fh a/\fh a<=1000000000) :
  q08 Tryz.prog q6n [.agg #[vi f.proc,vi f.pc,vi f.dst,Sl.v r,Sl.v o,Sl.v e],Sl.v hp,Sl.v (.mk ob 0 h.length h.length),Sl.v (.mk hb 0 h.length h.length)] m fun v m' =>
   ∃ b:Bool,v=vb b/\(b=true ↔ TalV h f)/\(b=true->Tab2 m' ob hb h.length (fun a=>fo a+q0m f.regs f.own a) (fun a=>fh a+occ f.held a))/\Two ob hb m m':=by
 apply qew
 simp -zeta only [q0a,q09,rI,rS,rB,cI,cB,cS,dI,dB,dS,gk,rg]
 intro m1
 have x1:Ext m m1:=(Ext.refl m).pushed _
 have s1:m1.size=m.size+1:=by simp [m1]
 clear_value m1
 have hrl:=hr.len
 have hol:=ho.len
 have hel:=he.len
 have hhl:=hh.len
 obtain ⟨hL1,hL2,hL3⟩:=hlen
 have lo1:=T.own.lt
 have lh1:=T.held.lt
 simp -zeta only [Sl.len_mk,Sl.blk_mk,Sl.off_mk,Nat.zero_add]
 have en2:∀ n:Nat,Int.toNat (n:Int)=n:=fun n=>by omega
 refine forI (n:=f.own.length) (by omega) (fun k m'=>Two ob hb m m'/\m.size < m'.size/\Tab2 m' ob hb h.length (fun a=>fo a+q0m (f.regs.take k) (f.own.take k) a) (fun a=>fh a+occ (f.held.take k) a)/\(∀ (j:Nat) (w o:Int),j < k->f.regs[j]?=some w->f.own[j]?=some o->0 < o->live h w) /\
  (∀ w ∈ f.held.take k,w ≠ 0->1000<=w/\∃ c,h[ix w]?=some c/\c.count < 0)) ⟨(Two.refl _ _ _).ext x1,by omega,by simpa [q0m,occ] using (⟨T.own.ext x1,T.held.ext x1,T.ne⟩:Tab2 m1 ob hb h.length fo fh),fun j w o hj=>absurd hj (Nat.not_lt_zero _),by simp⟩ ?_
 rintro k m2 I μ hk ⟨t2,z2,T2,q2,p2⟩ next
 have X2:=t2.toExt x0 hob hhb
 rw [en2,Nat.mul_one]
 refine ⟨fun h1=>?_,fun h1=>?_⟩
 ·simp only [decide_eq_true_eq] at h1
  obtain ⟨w,hw⟩:=q00 (l:=f.regs) (k:=k) (by omega)
  obtain ⟨q,hq⟩:=q00 (l:=f.own) (k:=k) (by omega)
  obtain ⟨v,hv⟩:=q00 (l:=f.held) (k:=k) (by omega)
  have gw:∀ {M:Mem},Ext m0 M->gcell M r.blk (r.off+k)=some (vi w):=fun hx=>by simpa using (hr.ext hx).at' hw
  have gq:∀ {M:Mem},Ext m0 M->gcell M o.blk (o.off+k)=some (vi q):=fun hx=>by simpa using (ho.ext hx).at' hq
  have gv:∀ {M:Mem},Ext m0 M->gcell M e.blk (e.off+k)=some (vi v):=fun hx=>by simpa using (he.ext hx).at' hv
  have hwfit:=hfit.1 w (q05 hw)
  have hvfit:=hfit.2.2 v (q05 hv)
  have hqb:=hown q (q05 hq)
  refine ⟨by omega,by omega,q,gq X2,fun M=>Two ob hb m2 M/\m.size < M.size/\Tab2 M ob hb h.length (fun a=>fo a+q0m (f.regs.take (k+1)) (f.own.take (k+1)) a) (fun a=>fh a+occ (f.held.take k) a)/\(0 < q->live h w),⟨fun h2=>?_,fun h2=>?_⟩,?_⟩
  ·have h2':0 < q:=by simpa using h2
   refine ⟨by omega,by omega,w,gw X2,(q2f (q0h.ext X2 hh) hwfit.2).mono ?_⟩
   rintro _ m3 ⟨a,b3,rfl,hb3,ha3,x3⟩
   have z3:=x3.size
   refine ⟨x3.sam (by simp; omega),a,b3,rfl,fun h3=>⟨false,rfl,?_,by simp,t2.ext x3⟩,fun h3=>?_⟩
   ·simp only [Bool.false_eq_true,false_iff]
    exact fun ht=>nb hb3 h3 (ht.own k w q hw hq h2')
   have hlv:=yb hb3 h3
   have hlt:=q04 (q0i hlv).1
   have e3:=ha3 (by simpa using h3)
   subst e3
   have O3:=T2.own.ext x3
   have H3:=T2.held.ext x3
   have q1:=qg6 (regs:=f.regs.take k) (own:=f.own.take k) (n:=999999) (by omega) (fun o ho=>hown o (List.mem_of_mem_take ho)) (ix w)
   have q6:(f.own.take k).length<=10000000:=by simp; omega
   have q7:=hfo (ix w)
   rw [en2,Nat.mul_one]
   refine ⟨by omega,by omega,_,tabGet O3 hlt,by omega,by omega,tabWr O3 hlt,?_⟩
   rw [show w64 (fo (ix w)+q0m (f.regs.take k) (f.own.take k) (ix w)+q)=fo (ix w)+q0m (f.regs.take k) (f.own.take k) (ix w)+q from q07 (by omega) (by omega)]
   have O4:=tabSet O3 (ix w) (fo (ix w)+q0m (f.regs.take k) (f.own.take k) (ix w)+q)
   rw [q1i (g:=fun a=>fo a+q0m (f.regs.take (k+1)) (f.own.take (k+1)) a)] at O4
   ·exact ⟨fun b hb'=>q0n _ _ _ _ (by simp at hb'; omega),((Two.refl _ _ _).ext x3).scells (Or.inl rfl) _ _,by rw [q02]; omega,⟨O4,H3.congr (q0n _ _ _ _ fun e=>T2.ne e.symm),T2.ne⟩,fun _=>hlv⟩
   ·intro b hb
    rw [q98 hw hq]
    by_cases e:b=ix w
    ·subst e; rw [if_pos rfl,if_pos (ptr_ix hlv.1).symm]; omega
    ·rw [if_neg e,if_neg (fun hw2=>e (by rw [hw2,ix_ptr]))]; omega
  ·have h2':q=0:=by simp at h2; omega
   refine ⟨Two.refl _ _ _,z2,⟨?_,T2.held,T2.ne⟩,fun hp=>by omega⟩
   rw [q1i (g:=fun a=>fo a+q0m (f.regs.take k) (f.own.take k) a)]
   ·exact T2.own
   ·intro b hb; rw [q98 hw hq,h2']; split <;> omega
  rintro m3 ⟨t3,z3,T3,hlv3⟩
  have t23:=t2.trans t3
  have X3:=t23.toExt x0 hob hhb
  have more:∀ (j:Nat) (w o:Int),j < k+1->f.regs[j]?=some w->f.own[j]?=some o->0 < o->live h w:=fun j w' o' hj hw' ho'=>by
   rcases Nat.lt_or_ge j k with h6 | h6
   ·exact q2 j w' o' h6 hw' ho'
   ·have:j=k:=by omega
    subst this
    rw [hw] at hw'; rw [hq] at ho'; simp at hw' ho'; subst hw'; subst ho'; exact hlv3
  have hv64:=qu8 (n:=h.length) hvfit hsm
  refine ⟨by omega,by omega,v,gv X3,fun h3=>⟨by omega,by omega,v,gv X3,?_⟩,fun h3=>?_⟩
  ·have h3':v ≠ 0:=by simpa using h3
   have nov:∀ {M:Mem},Two ob hb m M->¬ (1000<=v/\∃ c,h[ix v]?=some c/\c.count < 0)->∃ b:Bool,vb false=vb b/\(b=true ↔ TalV h f)/\(b=true->Tab2 M ob hb h.length (fun a=>fo a+q0m f.regs f.own a) (fun a=>fh a+occ f.held a))/\Two ob hb m M:=fun ht hn =>
    ⟨false,rfl,by simp only [Bool.false_eq_true,false_iff]; exact fun hk=>hn (hk.held v (q05 hv) h3'),by simp,ht⟩
   refine ⟨fun h4=>nov t23 fun ⟨g1,c,g2,_⟩=>?_,fun h4=>⟨fun h5=>nov t23 fun ⟨g1,c,g2,_⟩=>?_,fun h5=>?_⟩⟩
   ·have:=(hv64.2 ⟨g1,q04 g2⟩).1; simp at h4; omega
   ·have:=(hv64.2 ⟨g1,q04 g2⟩).2; simp at h5; omega
   simp at h4 h5
   obtain ⟨g1,g2⟩:=hv64.1 ⟨h4,by omega⟩
   have ew:w64 (v - 1000)=(ix v:Nat):=by have:=hvfit.2; unfold ix; rw [q07 (by omega) (by omega)]; omega
   rw [ew,en2]
   obtain ⟨c,hc⟩:=q00 g2
   obtain ⟨cf,_,c0,_,_⟩:=(q0h.ext X3 hh).at' hc
   refine ⟨by omega,by omega,c.count,c0,fun h6=>nov t23 fun ⟨_,c',g3,g4⟩=>?_,fun h6=>?_⟩
   ·rw [hc] at g3; simp at g3; subst g3; simp at h6; omega
   have q1:=hfh (ix v)
   have q2:=q3d (f.held.take k) (ix v)
   have q3:=occ_nn (f.held.take k) (ix v)
   have q4:(f.held.take k).length<=10000000:=by simp; omega
   rw [Nat.mul_one]
   refine ⟨by omega,by omega,_,tabGet T3.held g2,by omega,by omega,tabWr T3.held g2,?_⟩
   rw [show w64 (fh (ix v)+occ (f.held.take k) (ix v)+1)=fh (ix v)+occ (f.held.take k) (ix v)+1 from q07 (by omega) (by omega)]
   have O4:=tabSet T3.held (ix v) (fh (ix v)+occ (f.held.take k) (ix v)+1)
   rw [q1i (g:=fun a=>fh a+occ (f.held.take (k+1)) a)] at O4
   ·refine ⟨fun b hb'=>q0n _ _ _ _ (by simp at hb'; omega),next (by omega) _ ⟨t23.scells (Or.inr rfl) _ _,by rw [q02]; exact z3,⟨T3.own.congr (q0n _ _ _ _ T2.ne),O4,T2.ne⟩,more,q0f hv p2 fun _=>⟨g1,c,hc,by simp at h6; omega⟩⟩⟩
   ·intro b hb
    rw [q6q hv]
    by_cases e:b=ix v
    ·subst e; rw [if_pos rfl,if_pos (ptr_ix g1).symm]; omega
    ·rw [if_neg e,if_neg (fun hw2=>e (by rw [hw2,ix_ptr]))]; omega
  ·have h3':v=0:=by simpa using h3
   refine next (by omega) _ ⟨t23,z3,⟨T3.own,?_,T2.ne⟩,more,q0f hv p2 fun hne=>absurd h3' hne⟩
   rw [q1i (g:=fun a=>fh a+occ (f.held.take k) a)]
   ·exact T3.held
   ·intro b hb; rw [q6q hv,if_neg (by omega)]; omega
 ·simp only [decide_eq_false_iff_not] at h1
  have e1:f.regs.take k=f.regs:=q0b (by omega)
  have e2:f.own.take k=f.own:=q0b (by omega)
  have e3:f.held.take k=f.held:=q0b (by omega)
  rw [e1,e2,e3] at T2
  rw [e3] at p2
  exact ⟨true,rfl,by simp only [true_iff]; exact ⟨fun j w o hw ho=>q2 j w o (by have:=q04 hw; omega) hw ho,p2⟩,fun _=>T2,t2⟩
end
section
def DstV (fs:List Frame) (k:Nat) (f:Frame):Prop:=(prevAt fs k=none->f.dst=0)/\∀ p,prevAt fs k=some p->0<=f.dst/\f.dst < p.own.length/\at' p.own f.dst=0
structure FrmW (im:Image) (s:St) (k:Nat) (f:Frame):Prop where
 v:FrmV im f
 dst:DstV s.frames k f
 tal:TalV s.heap f
theorem FrmW.ok {im:Image} {s:St} {k:Nat} {f:Frame} (h:FrmW im s k f):FrmOk im s.heap (prevAt s.frames k) f :=
 ⟨h.v.proc,h.v.pc,h.v.lr,h.v.lo,h.v.lh,⟨fun j w o hw ho=>⟨(h.v.each j w o hw ho).1,(h.v.each j w o hw ho).2,h.tal.own j w o hw ho⟩⟩,h.dst.1,h.dst.2⟩
theorem StChk.w {im:Image} {s:St} (h:StChk im s) {k:Nat} {f:Frame} (hf:s.frames[k]?=some f):FrmW im s k f:=by
 have F:=h.frames k f hf
 refine ⟨⟨F.proc,F.pc,F.lr,F.lo,F.lh,fun j w o hw ho=>⟨(F.regs.each j w o hw ho).1,(F.regs.each j w o hw ho).2.1⟩⟩,⟨F.first,F.next⟩,fun j w o hw ho=>(F.regs.each j w o hw ho).2.2,fun w hw hne=>?_⟩
 obtain ⟨h1,h2⟩:=(h.held.words f (q05 hf) w hw).resolve_left hne
 obtain ⟨c,hc⟩:=q00 h2
 refine ⟨h1,c,hc,Int.not_le.1 fun hn=>?_⟩
 have h3:=h.held.unkept _ c hc hn
 have h4:=qrl (q05 hf) (a:=ix w)
 have h5:=q8x (l:=f.held) (a:=ix w) (by rw [ptr_ix h1]; exact hw)
 omega
section
variable {m:Mem} {d p out hp fr:Sl} {im:Image} {s:St}
set_option maxHeartbeats 2000000 in
theorem qj9 (him:ImageR m d p im) (hok:ImageOk im) (hs:StR m out hp fr s) (hfit:FitS s):q0o Tryz.prog q7j [.agg #[Sl.v d,Sl.v p],stV s out hp fr] m (StateOk im s):=by
 apply qfn
 simp -zeta only [q0a,q09,rI,rS,rB,cI,cB,cS,dI,dB,dS,gk,rg]
 intro m1 m2
 have x2:Ext m m2:=((Ext.refl m).pushed _).pushed _
 have s1:m1.size=m.size+1:=by simp [m1]
 have s2:m2.size=m.size+2:=by simp [m2,s1]
 clear_value m2
 have hl:∀ b ∈ [m1.size,m.size],b < m2.size:=by simp; omega
 have hfl:=hs.frames.len
 have hhl:=hs.heap.len
 have hlh:=hfit.lh
 have no:∀ {M:Mem},Ext m2 M->¬ StChk im s->∃ b':Bool,vb false=.bool b'/\(b'=true ↔ StateOk im s)/\Ext m M:=fun hx hn=>retF (fun h=>hn (chk_of h)) (x2.trans hx)
 have hem:(s.frames=[]) ↔ ((fr.len:Int)=0):=by rw [hfl]; simp
 refine ⟨fun M=>Ext m2 M/\(0<=s.status/\s.status<=3)/\(s.status=0 ↔ s.frames=[])/\isInt s.value/\(s.value ≠ 0->s.status=0),?_,?_⟩
 ·refine ⟨fun h1=>no (Ext.refl _) fun hk=>by have:=hk.status; simp at h1; omega,fun h1=>⟨fun h2=>no (Ext.refl _) fun hk=>by have:=hk.status; simp at h2; omega,fun h2=>⟨fun h3=>no (Ext.refl _) fun hk=>?_,fun h3=>?_⟩⟩⟩
  ·have:=hk.done
   rw [hem,← qh4] at this
   rw [this] at h3; cases h3
  have hst:0<=s.status/\s.status<=3:=by simp at h1 h2; omega
  have hdone:s.status=0 ↔ s.frames=[]:=by rw [hem]; exact (qh4 _ _).1 h3
  refine (q7y _ _).thenS (Ext.refl _) hl fun b3 m3 hb3 x3 _=>⟨b3,rfl,fun h4=>no x3 fun hk=>nb hb3 h4 hk.value,fun h4=>⟨fun h5=>⟨fun h6=>no x3 fun hk=>?_,fun h6=>?_⟩,fun h5=>?_⟩⟩
  ·have:=hk.value0 (by simpa using h5); simp at h6; exact h6 this
  ·exact ⟨x3,hst,hdone,yb hb3 h4,fun _=>by simpa using h6⟩
  ·exact ⟨x3,hst,hdone,yb hb3 h4,fun h6=>by simp at h5; exact absurd h5 h6⟩
 rintro m3 ⟨x3,hst,hdone,hv,hv0⟩
 refine ⟨fun h1=>no x3 fun hk=>by have:=hk.most; simp at h1; omega,fun h1=>⟨fun h2=>no x3 fun hk=>by have:=hk.most; simp at h2; omega,fun h2=>⟨fun h3=>no x3 fun hk=>by have:=hk.calls; simp at h3; omega,fun h3=>⟨fun h4=>no x3 fun hk=>by have:=hk.calls; simp at h4; omega,fun h4=>?_⟩⟩⟩⟩
 have hmost:0<=s.most/\s.most<=40:=by simp at h1 h2; omega
 have hcalls:0<=s.calls/\s.calls<=s.most:=by simp at h3 h4; omega
 rw [q07 (by omega) (by omega)]
 refine ⟨fun h5=>no x3 fun hk=>by have:=hk.depth; simp at h5; omega,fun h5=>?_⟩
 have hdep:(s.frames.length:Int)<=s.calls+1:=by simp at h5; omega
 clear h1 h2 h3 h4 h5
 have X3:=x2.trans x3
 refine (qhl (hs.ext X3).heap hfit.heap (by omega)).mono ?_
 rintro _ m4 ⟨ct,b4,rfl,hb4,ht4,x34⟩
 have x4:=x3.trans x34
 have z4:=x4.size
 have z3:=x3.size
 refine ⟨x34.sam fun b hb=>x3.lt (hl b hb),ct,b4,rfl,fun h1=>no x4 fun hk=>nb hb4 h1 hk.heap,fun h1=>?_⟩
 have hheap:=yb hb4 h1
 obtain ⟨ob,rfl,hob,B4⟩:=ht4 (by simpa using h1)
 have lob:=B4.lt
 refine (q37 (hs.ext (x2.trans x4)).out q65 #[] #[] (by decide) (fun x=>¬ isInt x) (fun x _ m' hx=>?_)).thenS x4 hl ?_
 ·apply qdx
  refine (q7y _ _).then fun b m5 hb x5=>⟨b,rfl,retB ?_ x5⟩
  rw [← hb]; simp
 intro b5 m5 hb5 x45 x5
 have z5:=x5.size
 have z45:=x45.size
 refine ⟨b5,rfl,fun h2=>no x5 fun hk=>?_,fun h2=>?_⟩
 ·obtain ⟨x,hx,hn⟩:=hb5.1 h2
  exact hn (hk.out x hx)
 have hout:∀ n ∈ s.out,isInt n:=fun n hn=>Classical.byContradiction fun hc=>by have:=hb5.2 ⟨n,hn,hc⟩; rw [h2] at this; cases this
 have en:Int.toNat (hp.len:Int)=s.heap.length:=by omega
 rw [en]
 refine ⟨by omega,by omega,by omega,by omega,?_⟩
 intro m6
 have x56:Ext m5 m6:=(Ext.refl m5).pushed _
 have s6:m6.size=m5.size+1:=by simp [m6]
 have H6:Blk m6 m5.size ty_int ((tab s.heap.length (fun _=>0)).map Ce.i):=tabNew m5 _
 clear_value m6
 have x6:=x5.trans x56
 have X6:=x2.trans x6
 have T6:Tab2 m6 ob m5.size s.heap.length (refs s.heap) (fun _=>0):=⟨B4.ext (x45.trans x56),H6,by omega⟩
 have hobm:m.size<=ob:=by have:=X3.size; omega
 have en2:∀ n:Nat,Int.toNat (n:Int)=n:=fun n=>by omega
 have hd41:s.frames.length<=41:=by omega
 have rb:∀ a,0<=refs s.heap a/\refs s.heap a<=3*s.heap.length:=fun a=>⟨q60 _ _,qcr _ _ fun c hc=>(hheap.cells c hc).fl⟩
 refine forI (n:=s.frames.length) (by omega) (fun k M=>Two ob m5.size m6 M/\Tab2 M ob m5.size s.heap.length (fun a=>refs s.heap a+owns (s.frames.take k) a) (fun a=>holds (s.frames.take k) a)/\∀ (j:Nat) (f:Frame),j < k->s.frames[j]?=some f->FrmW im s j f)
  ⟨Two.refl _ _ _,by simpa [owns,holds] using T6,fun j f hj=>absurd hj (Nat.not_lt_zero _)⟩ ?_
 rintro k m7 I μ hk ⟨t7,T7,hq7⟩ next
 have x7:Ext m2 m7:=t7.toExt x6 (by omega) (by omega)
 have X7:=x2.trans x7
 have lm7:∀ b ∈ [m1.size,m.size],b < m7.size:=fun b hb=>x7.lt (hl b hb)
 have z7:=x7.size
 have lo7:=T7.own.lt
 have lh7:=T7.held.lt
 rw [en2]
 refine ⟨fun h3=>?_,fun h3=>?_⟩
 ·simp only [decide_eq_true_eq] at h3
  obtain ⟨f,hf⟩:=q00 (l:=s.frames) (k:=k) (by omega)
  have hfm:=q05 hf
  obtain ⟨r,o,e,hr,ho,he,g0,g1,g2,g3,g4,g5⟩:=hs.frames.at' hf
  refine ⟨by omega,by omega,_,X7.gcell g0,_,X7.gcell g1,_,X7.gcell g2,r,X7.gcell g3,o,X7.gcell g4,e,X7.gcell g5,?_⟩
  intro m8 m9
  have x9:Ext m7 m9:=((Ext.refl m7).pushed _).scells (Nat.le_refl _) _ _
  have s9:m9.size=m7.size+1:=by simp [m9,m8,q02]
  clear_value m9
  have X9:=X7.trans x9
  have l9:∀ b ∈ [m7.size,m1.size,m.size],b < m9.size:=by simp; omega
  refine (qje (him.ext X9) (hr.ext X9) (ho.ext X9) (he.ext X9)).thenS (Ext.refl _) l9 fun b10 m10 hb10 x10 _=>⟨b10,rfl,fun h4=>no ((x7.trans x9).trans x10) fun hk=>nb hb10 h4 (hk.w hf).v,fun h4=>?_⟩
  have hV:=yb hb10 h4
  have x210:=(x7.trans x9).trans x10
  have X10:=x2.trans x210
  refine ⟨fun M=>m10=M/\DstV s.frames k f,?_,?_⟩
  ·have big:(w64 ((k:Int) - 1)=((k - 1:Nat):Int)) \/ k=0:=by
    rcases Nat.eq_zero_or_pos k with h5 | h5
    ·exact Or.inr h5
    ·exact Or.inl (by rw [q07 (by omega) (by omega)]; omega)
   have rest:0 < k->((decide (f.dst < (0:Int)))=true->∃ b':Bool,vb false=.bool b'/\(b'=true ↔ StateOk im s)/\Ext m m10)/\((decide (f.dst < (0:Int)))=false ->
     (0:Int)<=(w64 ((k:Int) - (1:Int)))/\(w64 ((k:Int) - (1:Int))) < (fr.len:Int) /\
     ∃ v127:Sl,gcell m10 fr.blk (fr.off+Int.toNat (w64 ((k:Int) - (1:Int)))*6+4)=some (Sl.v v127) /\
     ((decide (f.dst ≥ (v127.len:Int)))=true->∃ b':Bool,vb false=.bool b'/\(b'=true ↔ StateOk im s)/\Ext m m10) /\
     ((decide (f.dst ≥ (v127.len:Int)))=false->(0:Int)<=(w64 ((k:Int) - (1:Int)))/\(w64 ((k:Int) - (1:Int))) < (fr.len:Int) /\
     ∃ v138:Sl,gcell m10 fr.blk (fr.off+Int.toNat (w64 ((k:Int) - (1:Int)))*6+4)=some (Sl.v v138) /\
     (0:Int)<=f.dst/\f.dst < (v138.len:Int)/\∃ v142:Int,gcell m10 v138.blk (v138.off+Int.toNat f.dst*1)=some (vi v142) /\
     ((v142 != (0:Int))=true->∃ b':Bool,vb false=.bool b'/\(b'=true ↔ StateOk im s)/\Ext m m10)/\((v142 != (0:Int))=false->m10=m10/\DstV s.frames k f))):=fun hpos=>by
    have e1:=big.resolve_right (by omega)
    rw [e1,en2]
    obtain ⟨j,rfl⟩:∃ j,k=j+1:=⟨k - 1,by omega⟩
    have ej:j+1 - 1=j:=by omega
    rw [ej]
    obtain ⟨pf,hpf⟩:=q00 (l:=s.frames) (k:=j) (by omega)
    obtain ⟨pr,po,pe,hpr,hpo,hpe,y0,y1,y2,y3,y4,y5⟩:=hs.frames.at' hpf
    have hpol:=hpo.len
    have hprev:prevAt s.frames (j+1)=some pf:=hpf
    refine ⟨fun h5=>no x210 fun hk=>?_,fun h5=>⟨by omega,by omega,po,X10.gcell y4,fun h6=>no x210 fun hk=>?_,fun h6=>⟨by omega,by omega,po,X10.gcell y4,by simpa using h5,by simp at h6; omega,at' pf.own f.dst,?_,fun h7=>no x210 fun hk=>?_,fun h7=>⟨rfl,⟨fun hn=>(by rw [hprev] at hn; cases hn),fun q hq=>?_⟩⟩⟩⟩⟩
    ·have:=((hk.w hf).dst.2 pf hprev).1; simp at h5; omega
    ·have:=((hk.w hf).dst.2 pf hprev).2.1; simp at h6; omega
    ·simp at h5 h6
     exact (hpo.ext X10).atI h5 (by omega)
    ·have:=((hk.w hf).dst.2 pf hprev).2.2; simp at h7; exact h7 this
    ·rw [hprev] at hq; simp at hq; subst hq
     simp at h5 h6 h7; exact ⟨h5,by omega,h7⟩
   refine ⟨fun h5=>⟨fun h6=>no x210 fun hkk=>?_,fun h6=>⟨fun h7=>by simp at h5 h7; omega,fun h7=>⟨rfl,⟨fun _=>by simpa using h6,fun q hq=>?_⟩⟩⟩⟩,fun h5=>⟨fun h6=>rest (by simp at h6; omega),fun h6=>by simp at h5 h6; omega⟩⟩
   ·simp at h5; subst h5
    have:=(hkk.w hf).dst.1 rfl; simp at h6; exact h6 this
   ·simp at h5; subst h5; simp [prevAt] at hq
  ·rintro _ ⟨rfl,hD⟩
   have hlr:=hfit.lr f hfm
   have v1:=hV.lr
   have v2:=hV.lo
   have v3:=hV.lh
   have z10:=x10.size
   have T10:Tab2 m10 ob m5.size s.heap.length (fun a=>refs s.heap a+owns (s.frames.take k) a) (fun a=>holds (s.frames.take k) a):=⟨T7.own.ext (x9.trans x10),T7.held.ext (x9.trans x10),T7.ne⟩
   have hfo:∀ a,0<=refs s.heap a+owns (s.frames.take k) a/\refs s.heap a+owns (s.frames.take k) a<=1000000000000000:=fun a=>by
    have q1:=rb a
    have q2:=qkj (fs:=s.frames.take k) (n:=10000000) (k:=999999) (by omega) (fun g hg=>⟨(hfit.lr g (List.mem_of_mem_take hg)).2.1,by
     obtain ⟨j,hj⟩:=List.mem_iff_getElem?.1 hg
     have hjk:j < k:=by have:=q04 hj; simp at this; omega
     rw [List.getElem?_take_of_lt hjk] at hj
     exact (hq7 j g hjk hj).v.own⟩) a
    have q3:(s.frames.take k).length<=41:=by simp; omega
    omega
   have hfh:∀ a,0<=holds (s.frames.take k) a/\holds (s.frames.take k) a<=1000000000:=fun a=>by
    have q2:=qn8 (fs:=s.frames.take k) (n:=10000000) (fun g hg=>(hfit.lr g (List.mem_of_mem_take hg)).2.2) a
    have q3:(s.frames.take k).length<=41:=by simp; omega
    have q4:=qai (s.frames.take k) a
    omega
   refine (qql (m0:=m) X10 hs.heap hr ho he hobm (by omega) T10 (hfit.frames f hfm) (by omega) ⟨by omega,by omega,hlr.2.1⟩ hV.own hfo hfh).mono ?_
   rintro _ m11 ⟨b11,rfl,hb11,hT11,t11⟩
   have t611:Two ob m5.size m6 m11:=(t7.ext (x9.trans x10)).trans t11
   have x11:Ext m2 m11:=t611.toExt x6 (by omega) (by omega)
   refine ⟨fun b hb=>t11.same b (x10.lt (l9 b hb)) (by simp at hb; omega) (by simp at hb; omega),b11,rfl,fun h5=>no x11 fun hk=>nb hb11 h5 (hk.w hf).tal,fun h5=>next (by omega) _ ⟨t611,?_,fun j g hj hg=>?_⟩⟩
   ·have T11:=hT11 (by simpa using h5)
    refine ⟨?_,?_,T11.ne⟩
    ·rw [q1i (g:=fun a=>refs s.heap a+owns (s.frames.take k) a+q0m f.regs f.own a)]
     ·exact T11.own
     ·intro b hb; rw [qq7 hf]; omega
    ·rw [q1i (g:=fun a=>holds (s.frames.take k) a+occ f.held a)]
     ·exact T11.held
     ·intro b hb; rw [qnt hf]
   ·rcases Nat.lt_or_ge j k with h6 | h6
    ·exact hq7 j g h6 hg
    ·have:j=k:=by omega
     subst this
     rw [hf] at hg; simp at hg; subst hg; exact ⟨hV,hD,yb hb11 h5⟩
 simp only [decide_eq_false_iff_not] at h3
 rw [q0b (by omega)] at T7
 have hW:∀ (j:Nat) (f:Frame),s.frames[j]?=some f->FrmW im s j f:=fun j f hf=>hq7 j f (by have:=q04 hf; omega) hf
 refine forI (n:=s.heap.length) (by omega) (fun k M=>Ext m7 M/\∀ (a:Nat) (c:Cell),a < k->s.heap[a]?=some c->(0 < c.count->c.count=refs s.heap a+owns s.frames a)/\(c.count < 0->holds s.frames a=1)) ⟨Ext.refl _,fun a c ha=>absurd ha (Nat.not_lt_zero _)⟩ ?_
 rintro k2 m8 I2 μ2 hk2 ⟨x8,hq8⟩ next2
 have X8:=X7.trans x8
 rw [en2]
 refine ⟨fun h4=>?_,fun h4=>?_⟩
 ·simp only [decide_eq_true_eq] at h4
  have hkl:k2 < s.heap.length:=by omega
  obtain ⟨c,hck⟩:=q00 hkl
  obtain ⟨f,_,g0,g1,g2⟩:=hs.heap.at' hck
  refine ⟨fun M=>Ext m8 M/\(0 < c.count->c.count=refs s.heap k2+owns s.frames k2)/\(c.count < 0->holds s.frames k2=1),?_,?_⟩
  ·refine ⟨by omega,by omega,_,X8.gcell g0,_,X8.gcell g1,f,X8.gcell g2,?_⟩
   intro m9 m10
   have x10:Ext m8 m10:=((Ext.refl m8).pushed _).scells (Nat.le_refl _) _ _
   clear_value m10
   have x210:=(x7.trans x8).trans x10
   have go:=tabGet (T7.own.ext (x8.trans x10)) hkl
   have gh:=tabGet (T7.held.ext (x8.trans x10)) hkl
   simp -zeta only [Sl.len_mk,Sl.blk_mk,Sl.off_mk,Nat.zero_add,Nat.mul_one]
   have held:(0 < c.count->c.count=refs s.heap k2+owns s.frames k2)->((decide (c.count < (0:Int)))=true->(0:Int)<=k2/\(k2:Int) < (s.heap.length:Int)/\∃ v183:Int,gcell m10 m5.size k2=some (vi v183) /\
     ((v183 != (1:Int))=true->∃ b':Bool,vb false=.bool b'/\(b'=true ↔ StateOk im s)/\Ext m m10)/\((v183 != (1:Int))=false->Ext m8 m10/\(0 < c.count->c.count=refs s.heap k2+owns s.frames k2)/\(c.count < 0->holds s.frames k2=1))) /\
     ((decide (c.count < (0:Int)))=false->Ext m8 m10/\(0 < c.count->c.count=refs s.heap k2+owns s.frames k2)/\(c.count < 0->holds s.frames k2=1)):=fun hc =>
    ⟨fun h5=>⟨by omega,by omega,_,gh,fun h6=>no x210 fun hk=>by have:=hk.held.kept k2 c hck (by simpa using h5); simp at h6; exact h6 this,fun h6=>⟨x10,hc,fun _=>by simpa using h6⟩⟩,fun h5=>⟨x10,hc,fun h6=>by simp at h5; omega⟩⟩
   refine ⟨fun h5=>⟨by omega,by omega,_,go,fun h6=>no x210 fun hk=>?_,fun h6=>held fun _=>by simpa using h6⟩,fun h5=>held fun h6=>by simp at h5; omega⟩
   have:=hk.exact' k2 c hck (by simpa using h5)
   simp at h6; exact h6 this
  ·rintro m9 ⟨x9,hc1,hc2⟩
   refine next2 (by omega) _ ⟨x8.trans x9,fun a e ha he=>?_⟩
   rcases Nat.lt_or_ge a k2 with h6 | h6
   ·exact hq8 a e h6 he
   ·have:a=k2:=by omega
    subst this
    rw [hck] at he; simp at he; subst he; exact ⟨hc1,hc2⟩
 ·simp only [decide_eq_false_iff_not] at h4
  refine retT (qnp ⟨hok,hst,hdone,hv,hv0,hmost,hcalls,hdep,hout,hheap,fun j f hf=>(hW j f hf).ok,⟨fun f hf w hw=>?_,fun i c hc hn=>(hq8 i c (by have:=q04 hc; omega) hc).2 hn,fun i c hc hn=>?_⟩,fun a c hc hp=>(hq8 a c (by have:=q04 hc; omega) hc).1 hp⟩) X8
  ·obtain ⟨j,hj⟩:=qba hf
   by_cases h0:w=0
   ·exact Or.inl h0
   ·obtain ⟨h1,c,h2,_⟩:=(hW j f hj).tal.held w hw h0
    exact Or.inr ⟨h1,q04 h2⟩
  ·refine qo6 fun f hf w hw e=>?_
   obtain ⟨j,hj⟩:=qba hf
   obtain ⟨h1,c',h2,h3⟩:=(hW j f hj).tal.held w hw (by omega)
   rw [e,ix_ptr,hc] at h2; simp at h2; subst h2; omega
theorem qk9 (him:ImageR m d p im) (hs:StR m out hp fr s) (hfit:FitS s):q0o Tryz.prog q7o [.agg #[Sl.v d,Sl.v p],stV s out hp fr] m (StateOk im s):=by
 apply qf8
 simp -zeta only [q0a,q09,rI,rS,rB,cI,cB,cS,dI,dB,dS,gk,rg]
 intro m1 m2
 have x2:Ext m m2:=((Ext.refl m).pushed _).pushed _
 have s1:m1.size=m.size+1:=by simp [m1]
 have s2:m2.size=m.size+2:=by simp [m2,s1]
 clear_value m2
 have hl:∀ b ∈ [m1.size,m.size],b < m2.size:=by simp; omega
 refine (qis (him.ext x2)).thenS (Ext.refl _) hl fun b3 m3 hb3 x3 _=>⟨b3,rfl,fun h1=>?_,fun h1=>retF (fun hk=>fb hb3 h1 hk.image) (x2.trans x3)⟩
 refine (qj9 (him.ext (x2.trans x3)) (hb3.1 h1) (hs.ext (x2.trans x3)) hfit).thenS x3 hl fun b4 m4 hb4 x34 x4=>⟨b4,rfl,retB hb4 (x2.trans x4)⟩
end
end
end Go.Proofs.YtpggcodlaajceaaGreat
section
/- Copies of heaps. -/
namespace Go.Vc
theorem rowIs.app {m:Mem} {b o:Nat} {l r:List Ce} (h:rowIs m b o l) (k:rowIs m b (o+l.length) r):rowIs m b o (l ++ r):=fun i c hc=>by
 rcases Nat.lt_or_ge i l.length with h1 | h1
 ·rw [List.getElem?_append_left h1] at hc; exact h i c hc
 ·rw [List.getElem?_append_right h1] at hc
  have:=k _ c hc
  rwa [show o+l.length+(i - l.length)=o+i by omega] at this
theorem SlOf.rowsOf {α:Type} {m:Mem} {sz:Nat} {R:List Ce->α->Prop} {s:Sl} {l:List α} (h:SlOf m sz R s l) (hR:∀ cs x,R cs x->cs.length=sz):∃ css,RowsOf sz R css l/\rowIs m s.blk s.off css.flatten:=by
 have:∀ k,k<=l.length->∃ css,RowsOf sz R css (l.take k)/\rowIs m s.blk s.off css.flatten:=by
  intro k
  induction k with
  | zero=>intro _; exact ⟨[],by simpa using RowsOf.nil sz R,fun i c hc=>by simp at hc⟩
  | succ k ih =>
   intro hk
   obtain ⟨css,h1,h2⟩:=ih (by omega)
   obtain ⟨x,hx⟩:=q00 (l:=l) (k:=k) (by omega)
   obtain ⟨cs,h3,h4⟩:=h.row k x hx
   refine ⟨css ++ [cs],by rw [q06 hx]; exact h1.snoc (hR cs x h3) h3,?_⟩
   rw [List.flatten_append]
   refine h2.app ?_
   have hl:css.flatten.length=k*sz:=by rw [q0g h1.size,h1.len,List.length_take,Nat.min_eq_left (by omega)]
   rw [hl]; simpa using h4
 obtain ⟨css,h1,h2⟩:=this l.length (Nat.le_refl _)
 rw [List.take_length] at h1
 exact ⟨css,h1,h2⟩
end Go.Vc
namespace Go.Proofs.YtpggcodlaajceaaGreat
open Go.Vc
theorem Own.roled {m m':Mem} {s:Sl} {l:List Ce} {e sz:Nat} (ho:Own m m' e sz s l) (hx:Ext m m') {ro:Nat->Nat} (hn:∀ b,m.size<=b->ro b=0) (k:Nat):∃ ro',Chg (fun _=>False) ro m ro' m'/\Arr ro' m' e sz k s l/\∀ b,ro' b=ro b \/ ro' b=k:=by
 rcases ho.at' with h | ⟨b,c,tail,h,h2,h3,h4,h5⟩
 ·exact ⟨ro,Chg.ofExt _ hx hn,Arr.ofOwn ho fun hne=>absurd h hne,fun b=>Or.inl rfl⟩
 ·refine ⟨upd ro b k,Chg.upd hx hn h2 h3.lt k,Arr.ofOwn ho fun _=>by rw [h]; exact q21 _ _ _,fun c=>?_⟩
  by_cases e:c=b
  ·rw [e]; exact Or.inr (q21 _ _ _)
  ·exact Or.inl (q1y e)
theorem qmn {N:Nat} {ro:Nat->Nat} {m:Mem} {hp:Sl} {h:List Cell} (hn:∀ b,m.size<=b->ro b=0) (h3:∀ b,b < m.size->ro b ≠ 3) (hh:q0h m hp h) (hN:N<=m.size) (hfl:∀ c ∈ h,c.fields.length<=3) (hsm:h.length<=1000000000) :
  q08 Tryz.prog q1f [Sl.v hp] m fun v m'=>∃ ro' s,v=Sl.v s/\q0u N ro' m' s h/\Chg (fun k=>k=3) ro m ro' m'/\Ext m m':=by
 apply qi4
 intro m1
 have x1:Ext m m1:=(Ext.refl m).pushed _
 clear_value m1
 have hl:=hh.len
 have toX:∀ {ro':Nat->Nat} {M:Mem},Chg (fun k=>k=3) ro m ro' M->Ext m M:=fun c=>⟨c.size,fun b hb=>c.keep b hb (h3 b hb)⟩
 refine forSI (σ:=Sl) (n:=h.length) (by omega) (fun k s M=>∃ ro',q0u N ro' M s (h.take k)/\Chg (fun k=>k=3) ro m ro' M) ⟨ro,⟨[],⟨by simp,by simp,Or.inl rfl⟩,by simpa using RowsOf.nil _ _,Sep.nil⟩,Chg.ofExt _ x1 hn⟩ ?_
 rintro k s m2 I μ hk ⟨ro2,H2,C2⟩ next
 have X2:=toX C2
 have en:Int.toNat (k:Int)=k:=by omega
 rw [en]
 refine ⟨fun h1=>?_,fun h1=>?_⟩
 ·simp only [decide_eq_true_eq] at h1
  obtain ⟨c,hc⟩:=q00 (l:=h) (k:=k) (by omega)
  obtain ⟨f,hf,g0,g1,g2⟩:=(q0h.ext X2 hh).at' hc
  have hf3:=hfl c (q05 hc)
  refine ⟨by omega,by omega,c.count,g0,by omega,by omega,c.tag,g1,by omega,by omega,f,g2,(q2a hf (by omega)).mono ?_⟩
  rintro _ m3 ⟨q,rfl,oq,x3⟩
  refine ⟨q,rfl,x3.keepG g1,x3.keepG g0,?_⟩
  intro m4
  have x4:Ext m3 m4:=(Ext.refl m3).pushed _
  have k4:Blk m4 m3.size q35 [.i c.count,.i c.tag,.s q]:=Blk.push m3 _ _
  clear_value m4
  have x24:=x3.trans x4
  have F4:Chg (fun _=>False) ro2 m2 ro2 m4:=Chg.ofExt _ x24 C2.new
  have C4:Chg (fun k=>k=3) ro m ro2 m4:=C2.trans (Chg.ofExt _ x24 C2.new)
  have iq:q03 m4 q c.fields:=(q03.ofOwn oq (by omega)).ext x4
  have hq0:c.fields ≠ []->ro2 q.blk=0:=fun hne=>C2.new _ ((FB.ofOwn oq hne).1)
  have hz:=C2.size
  refine q0u.push (H2.chg F4 id id) C4.new (x:=.mk m3.size 0 1 1) rfl k4.row iq (FOk.of H2 (fun h0=>x24.same _ (H2.blk h0).2) (fun _=>oq.ext x4) hq0 (by omega)) (by simp; omega) fun ro5 r m5 H5 C5=>?_
  exact next (by omega) _ _ ⟨ro5,by rw [q06 hc]; exact H5,C4.trans C5⟩
 ·simp only [decide_eq_false_iff_not] at h1
  rw [q0b (by omega)] at H2
  exact ⟨ro2,s,rfl,H2,C2,X2⟩
structure HMix (N:Nat) (ro:Nat->Nat) (m:Mem) (r:Sl) (h:List Cell) (css0 css:List (List Ce)) (k:Nat):Prop where
 arr:Arr ro m q35 3 3 r css.flatten
 len:css.length=h.length
 size:∀ cs ∈ css,cs.length=3
 done:∀ (j:Nat) (cs:List Ce) (c:Cell),j < k->css[j]?=some cs->h[j]?=some c->CellL N ro m cs c
 rest:∀ j,k<=j->css[j]?=css0[j]?
 sep:∀ (i j:Nat) (ci cj:List Ce) (a b:Sl),i < k->j < k->css[i]?=some ci->css[j]?=some cj->ci[2]?=some (.s a)->cj[2]?=some (.s b)->i ≠ j->a.len ≠ 0->b.len ≠ 0->a.blk ≠ b.blk
theorem qgo {m:Mem} {s:Sl} {css:List (List Ce)} {n:Nat} (hs:s.len=n) (hn:css.length=n) (hz:∀ cs ∈ css,cs.length=3) (hr:rowIs m s.blk s.off css.flatten) (hsm:n<=1000000000) :
  q08 Tryz.prog q2z [Sl.v s] m fun v m'=>∃ r,v=Sl.v r/\Own m m' q35 3 r css.flatten/\Ext m m':=by
 apply q66
 refine ⟨fun h=>?_,fun h=>?_⟩
 ·cases s with
  | nil=>simp at hs; have:css=[]:=List.length_eq_zero_iff.1 (by omega); subst this; exact ⟨.nil,rfl,Own.nil _ _ _ _,Ext.refl _⟩
  | mk b o len cap=>simp at h
  | emp b o sp=>simp at h
 ·intro m1
  have h1:Ext m m1:=(Ext.refl m).pushed _
  have ho:Own m m1 q35 3 (.mk m.size 0 0 0) []:=Own.new (Ext.refl m) q35 3 [] 0 (by simp)
  refine Own.append (zs:=[.i 0,.i 0,.s .nil]) (new:=css.flatten) ho h1 (by rw [q0g hz,hn,hs]; rfl) (h1.row hr) (by simp; omega) fun r m' h1 h2 h3 h4 h5 h6=>⟨r,rfl,by simpa using h1,h2⟩
theorem qls {N:Nat} {ro:Nat->Nat} {m:Mem} {hp:Sl} {h:List Cell} (hn:∀ b,m.size<=b->ro b=0) (h3:∀ b,b < m.size->ro b ≠ 3) (hh:q0h m hp h) (hN:N<=m.size) (hfl:∀ c ∈ h,c.fields.length<=3) (hsm:h.length<=1000000000) :
  q08 Tryz.prog q8d [Sl.v hp] m fun v m'=>∃ ro' s,v=Sl.v s/\q0u N ro' m' s h/\Chg (fun k=>k=3) ro m ro' m'/\Ext m m':=by
 apply qgs
 simp -zeta only [q0a,q09,rI,rS,rB,cI,cB,cS,dI,dB,dS,gk,rg]
 have hl:=hh.len
 obtain ⟨css0,R0,hrow⟩:=hh.rowsOf (fun cs x ⟨f,e,_⟩=>by rw [e]; rfl)
 refine (qgo hl R0.len R0.size hrow hsm).mono ?_
 rintro _ m1 ⟨r,rfl,or,x1⟩
 obtain ⟨ro1,C1,A1,_⟩:=Own.roled or x1 hn 3
 have hrl:r.len=h.length:=by have:=A1.len; rw [q0g R0.size,R0.len] at this; omega
 refine ⟨r,rfl,?_⟩
 have toX:∀ {ro':Nat->Nat} {M:Mem},Chg (fun k=>k=3) ro m ro' M->Ext m M:=fun c=>⟨c.size,fun b hb=>c.keep b hb (h3 b hb)⟩
 refine forI (n:=h.length) (by omega) (fun k M=>∃ css,HMix N ro1 M r h css0 css k/\Chg (fun k=>k=3) ro m ro1 M) ⟨css0,⟨A1,R0.len,R0.size,fun j _ _ hj=>absurd hj (Nat.not_lt_zero _),fun _ _=>rfl,fun i _ _ _ _ _ hi=>absurd hi (Nat.not_lt_zero _)⟩,C1.mono fun _=>False.elim⟩ ?_
 rintro k m2 I μ hk ⟨css,H2,C2⟩ next
 have X2:=toX C2
 have en:Int.toNat (k:Int)=k:=by omega
 rw [en]
 refine ⟨fun h1=>?_,fun h1=>?_⟩
 ·simp only [decide_eq_true_eq] at h1
  have hkl:k < h.length:=by omega
  obtain ⟨c,hc⟩:=q00 hkl
  obtain ⟨f,hf,g0,g1,g2⟩:=(q0h.ext X2 hh).at' hc
  have hf3:=hfl c (q05 hc)
  refine ⟨by omega,by omega,c.count,g0,c.tag,g1,f,g2,?_⟩
  intro m3 m4
  have x4:Ext m2 m4:=((Ext.refl m2).pushed _).scells (Nat.le_refl _) _ _
  have s4:m4.size=m2.size+1:=by simp [m4,m3,q02]
  clear_value m4
  refine (q1k (hf.ext x4) (by omega)).mono ?_
  rintro _ m5 ⟨q,rfl,oq,x5⟩
  have x25:=x4.trans x5
  have F5:Chg (fun _=>False) ro1 m2 ro1 m5:=Chg.ofExt _ x25 C2.new
  have A5:=H2.arr.chg F5 id
  have hcl:=H2.len
  have hfit:k*3+2+1<=css.flatten.length:=by rw [q0g H2.size]; have:(k+1)*3<=css.length*3:=Nat.mul_le_mul_right _ (by omega); omega
  obtain ⟨cs,hcs⟩:=q00 (l:=css) (k:=k) (by omega)
  obtain ⟨cs0,hcs0⟩:=q00 (l:=css0) (k:=k) (by rw [R0.len]; exact hkl)
  have ecs:cs=cs0:=by have:=H2.rest k (Nat.le_refl _); rw [hcs,hcs0] at this; simpa using this
  obtain ⟨f0,ef0,hf0⟩:=R0.each k cs0 c hcs0 hc
  rw [ecs,ef0] at hcs
  have hcap:r.cap ≠ 0:=fun e=>by have:=A1.le; omega
  have rb:=A5.blk hcap
  have c6:∀ l,Chg (fun k=>k=3) ro1 m5 ro1 (scells m5 r.blk (r.off+(k*3+2)) l):=fun l=>Chg.scells F5.new rb.2 _ _
  have hb2:ro1 m2.size=0:=C2.new _ (Nat.le_refl _)
  refine ⟨x5.sam (by simp; omega),q,rfl,by omega,by omega,?_⟩
  rw [Nat.add_assoc]
  refine ⟨A5.wr hfit,?_⟩
  intro m6
  have C6:=c6 [.s q]
  have hq0:c.fields ≠ []->ro1 q.blk=0/\m4.size<=q.blk:=fun hne=>by
   have:=(FB.ofOwn oq hne).1
   exact ⟨C2.new _ (by omega),this⟩
  have iq:q03 m5 q c.fields:=q03.ofOwn oq (by omega)
  have L6:CellL N ro1 m6 [.i c.count,.i c.tag,.s q] c:=CellL.chg C6 (by decide) _ _ ⟨q,rfl,iq,fun hne=>⟨(hq0 hne).1,by have:=(hq0 hne).2; have:=C2.size; omega,(FB.ofOwn oq hne).2⟩⟩
  have hset:(css.set k [.i c.count,.i c.tag,.s q])[k]?=some [.i c.count,.i c.tag,.s q]:=List.getElem?_set_self (q04 hcs)
  refine ⟨(C6.mono fun k hk=>by omega:To ro1 m5 ro1 m6).sam (by simp; exact ⟨by have:=x5.size; omega,hb2⟩),next (by omega) _ ⟨css.set k [.i c.count,.i c.tag,.s q],⟨?_,by simpa using H2.len,fun c' hc'=>?_,fun j c' d hj hc' hd=>?_,fun j hj=>?_,?_⟩,(C2.trans (F5.mono fun _=>False.elim)).trans C6⟩⟩
  ·have:=A5.set (o:=k*3+2) (new:=[.s q]) hfit
   rw [qe5 css k _ 2 [.s q] H2.size hcs (by simp)] at this
   exact this
  ·rcases List.mem_or_eq_of_mem_set hc' with h5 | h5
   ·exact H2.size c' h5
   ·rw [h5]; rfl
  ·rcases Nat.lt_or_ge j k with h5 | h5
   ·rw [List.getElem?_set_ne (by omega)] at hc'
    exact CellL.chg C6 (by decide) _ _ (CellL.chg F5 id _ _ (H2.done j c' d h5 hc' hd))
   ·have:j=k:=by omega
    subst this
    rw [hset] at hc'
    simp at hc'; subst hc'
    rw [hc] at hd; simp at hd; subst hd; exact L6
  ·rw [List.getElem?_set_ne (by omega)]; exact H2.rest j (by omega)
  ·have key:∀ (j:Nat) (cj:List Ce) (b:Sl),j < k->css[j]?=some cj->cj[2]?=some (.s b)->q.len ≠ 0->b.len ≠ 0->q.blk ≠ b.blk:=fun j cj b hj hcj hb h5 h6=>by
    obtain ⟨d,hd⟩:=q00 (l:=h) (k:=j) (by omega)
    obtain ⟨b',e,ib,_⟩:=H2.done j cj d hj hcj hd
    rw [e] at hb; simp at hb; subst hb
    have hne:d.fields ≠ []:=fun e=>by have:=ib.len; rw [e] at this; simp at this; exact h6 this
    have hne2:c.fields ≠ []:=fun e=>by have:=iq.len; rw [e] at this; simp at this; exact h5 this
    have:=q2c ib hne
    have:=(hq0 hne2).2
    omega
   intro i j ci cj a b hi hj hci hcj ha hb hij h5 h6
   by_cases ik:i=k
   ·subst ik
    rw [hset] at hci
    rw [List.getElem?_set_ne hij] at hcj
    simp at hci; subst hci; simp at ha; subst ha
    exact key j cj b (by omega) hcj hb h5 h6
   ·rw [List.getElem?_set_ne (fun e=>ik e.symm)] at hci
    by_cases jk:j=k
    ·subst jk
     rw [hset] at hcj
     simp at hcj; subst hcj; simp at hb; subst hb
     exact Ne.symm (key i ci a (by omega) hci ha h6 h5)
    ·rw [List.getElem?_set_ne (fun e=>jk e.symm)] at hcj
     exact H2.sep i j ci cj a b (by omega) (by omega) hci hcj ha hb hij h5 h6
 ·simp only [decide_eq_false_iff_not] at h1
  have hlt:∀ {j:Nat} {cs:List Ce},css[j]?=some cs->j < k:=fun hj=>by have:=q04 hj; have:=H2.len; omega
  exact ⟨ro1,r,rfl,⟨css,H2.arr,⟨H2.len,H2.size,fun j cs x h1 h2=>H2.done j cs x (hlt h1) h1 h2⟩,fun i j ci cj a b hi hj=>H2.sep i j ci cj a b (hlt hi) (hlt hj) hi hj⟩,C2,X2⟩
end Go.Proofs.YtpggcodlaajceaaGreat
end
namespace Go.Proofs.YtpggcodlaajceaaGreat
open Go.Vc
section
structure Bs (m0:Mem) (ro:Nat->Nat) (m:Mem):Prop where
 base:Ext m0 m
 base0:∀ b,b < m0.size->ro b=0
 new:∀ b,m.size<=b->ro b=0
structure SNew (m0:Mem) (ro:Nat->Nat) (m:Mem) (out hp fr:Sl) (s:St):Prop where
 bs:Bs m0 ro m
 out:Arr ro m ty_int 1 2 out (s.out.map Ce.i)
 heap:q0u m0.size ro m hp s.heap
 frames:FrmL ro m fr s.frames
structure SmallS (s:St):Prop where
 out:s.out.length<=900000000
 fl:∀ c ∈ s.heap,c.fields.length<=3
 heap:s.heap.length<=900000000
 depth:s.frames.length<=1000
 frames:∀ f ∈ s.frames,f.regs.length<=1000000/\f.own.length<=1000000/\f.held.length<=1000000
def SNewR (m0:Mem) (ro:Nat->Nat) (m:Mem) (s:St) (v:Value) (m':Mem):Prop:=∃ ro' out hp fr,v=stV s out hp fr/\SNew m0 ro' m' out hp fr s/\Chg (fun _=>False) ro m ro' m'
abbrev Ch2:=Chg (fun k=>2<=k)
theorem Ch2.none {ro ro':Nat->Nat} {m m':Mem} (h:Ch2 ro m ro' m') (hro:∀ b,b < m.size->ro b<=1):Chg (fun _=>False) ro m ro' m':=⟨h.size,h.role,h.new,fun b hb _=>h.keep b hb (by have:=hro b hb; omega)⟩
theorem Chg.toExt {ro ro':Nat->Nat} {m m':Mem} (h:Chg (fun _=>False) ro m ro' m'):Ext m m':=⟨h.size,fun b hb=>h.keep b hb id⟩
theorem Bs.chg {m0:Mem} {ro ro':Nat->Nat} {m m':Mem} (B:Bs m0 ro m) (h:Chg (fun _=>False) ro m ro' m'):Bs m0 ro' m':=⟨B.base.trans h.toExt,fun b hb=>by rw [h.role b (B.base.lt hb)]; exact B.base0 b hb,h.new⟩
theorem Chg.samR {p:Nat->Prop} {ro ro':Nat->Nat} {m m':Mem} (h:Chg p ro m ro' m') {l:List Nat} (hl:∀ b ∈ l,b < m.size/\¬ p (ro b)):Sam l m m':=fun b hb=>h.keep b (hl b hb).1 (hl b hb).2
structure Cpy (m0:Mem) (ro:Nat->Nat) (m:Mem) (ro':Nat->Nat) (M:Mem) (q r:Sl) (s:St):Prop where
 chg:Ch2 ro m ro' M
 out:Arr ro' M ty_int 1 2 q (s.out.map Ce.i)
 heap:q0u m0.size ro' M r s.heap
theorem Cpy.step {m0:Mem} {ro ro1 ro2:Nat->Nat} {m m1 m2:Mem} {q r:Sl} {s:St} (h:Cpy m0 ro m ro1 m1 q r s) {p:Nat->Prop} (hc:Chg p ro1 m1 ro2 m2) (hp:∀ k,p k->4<=k):Cpy m0 ro m ro2 m2 q r s :=
 ⟨h.chg.trans (hc.mono fun k hk=>by have:=hp k hk; omega),h.out.chg hc fun h2=>by have:=hp _ h2; omega,h.heap.chg hc (fun h2=>by have:=hp _ h2; omega) fun h2=>by have:=hp _ h2; omega⟩
theorem qfq {m:Mem} {s:Sl} {css:List (List Ce)} {n:Nat} (hs:s.len=n) (hn:css.length=n) (hz:∀ cs ∈ css,cs.length=6) (hr:rowIs m s.blk s.off css.flatten) (hsm:n<=1000000000) :
  q08 Tryz.prog q2r [Sl.v s] m fun v m'=>∃ r,v=Sl.v r/\Own m m' q1l 6 r css.flatten/\Ext m m':=by
 apply q5x
 refine ⟨fun h=>?_,fun h=>?_⟩
 ·cases s with
  | nil=>simp at hs; have:css=[]:=List.length_eq_zero_iff.1 (by omega); subst this; exact ⟨.nil,rfl,Own.nil _ _ _ _,Ext.refl _⟩
  | mk b o len cap=>simp at h
  | emp b o sp=>simp at h
 ·intro m1
  have h1:Ext m m1:=(Ext.refl m).pushed _
  have ho:Own m m1 q1l 6 (.mk m.size 0 0 0) []:=Own.new (Ext.refl m) q1l 6 [] 0 (by simp)
  refine Own.append (zs:=[.i 0,.i 0,.i 0,.s .nil,.s .nil,.s .nil]) (new:=css.flatten) ho h1 (by rw [q0g hz,hn,hs]; rfl) (h1.row hr) (by simp; omega) fun r m' h1 h2 h3 h4 h5 h6=>⟨r,rfl,by simpa using h1,h2⟩
structure FMix (ro:Nat->Nat) (m:Mem) (r:Sl) (fs:List Frame) (css0 css:List (List Ce)) (k:Nat):Prop where
 arr:Arr ro m q1l 6 4 r css.flatten
 len:css.length=fs.length
 size:∀ cs ∈ css,cs.length=6
 done:∀ (j:Nat) (cs:List Ce) (f:Frame),j < k->css[j]?=some cs->fs[j]?=some f->Frm ro m j cs f
 rest:∀ j,k<=j->css[j]?=css0[j]?
theorem setRow {css:List (List Ce)} {k o:Nat} {cs:List Ce} {x:Ce} (hz:∀ cs ∈ css,cs.length=6) (hcs:css[k]?=some cs) (ho:o < 6):setL css.flatten (k*6+o) [x]=(css.set k (cs.set o x)).flatten/\(∀ c ∈ css.set k (cs.set o x),c.length=6)/\(css.set k (cs.set o x))[k]?=some (cs.set o x):=by
 refine ⟨qe5 css k cs o [x] hz hcs (by simp; omega),fun c hc=>?_,List.getElem?_set_self (q04 hcs)⟩
 rcases List.mem_or_eq_of_mem_set hc with h | h
 ·exact hz c h
 ·rw [h,List.length_set]; exact hz cs (q05 hcs)
set_option maxHeartbeats 1000000 in
theorem qjj {m0:Mem} {ro:Nat->Nat} {m:Mem} {out hp fr:Sl} {s:St} (B:Bs m0 ro m) (hro:∀ b,ro b<=1) (hs:StR m out hp fr s) (hsm:SmallS s):q08 Tryz.prog q3m [stV s out hp fr] m (SNewR m0 ro m s):=by
 apply qfs
 simp -zeta only [q0a,q09,rI,rS,rB,cI,cB,cS,dI,dB,dS,gk,rg]
 intro m1 m2
 have s1:m1.size=m.size+1:=by simp [m1]
 have s2:m2.size=m.size+2:=by simp [m2,s1]
 have x2:Ext m m2:=((Ext.refl m).pushed _).pushed _
 obtain ⟨ro2,hro2⟩:∃ ro2,ro2=upd (upd ro m.size 8) m1.size 8:=⟨_,rfl⟩
 have C2:Chg (fun _=>False) ro m ro2 m2:=by
  rw [hro2]
  exact (Chg.upd (m':=m1) (k:=8) ((Ext.refl m).pushed _) B.new (Nat.le_refl _) (by omega)).trans (Chg.upd (m':=m2) (k:=8) ((Ext.refl m1).pushed _) (fun b hb=>by rw [q1y (by omega)]; exact B.new b (by omega)) (Nat.le_refl _) (by omega))
 have r0:ro2 m.size=8/\ro2 m1.size=8:=by rw [hro2]; exact ⟨by rw [q1y (by omega),q21],q21 _ _ _⟩
 have le2:∀ b,ro2 b=8 \/ ro2 b<=1:=fun b=>by
  rw [hro2]; unfold upd
  split
  ·exact Or.inl rfl
  ·split
   ·exact Or.inl rfl
   ·exact Or.inr (hro b)
 have kB2:Blk m2 m1.size q1s [.i 0,.i 0,.i 0,.i 0,.s .nil,.s .nil,.s .nil]:=Blk.push m1 _ _
 have kA2:Blk m2 m.size q1s [.i s.status,.i s.value,.i s.calls,.i s.most,.s out,.s hp,.s fr]:=(Blk.push m _ _).ext (Ext.push m1 _)
 clear_value m2
 clear hro2
 have hN:=B.base.size
 have hml:=hsm.out
 have hll:=hsm.heap
 have hdl:=hsm.depth
 refine (q1k (hs.out.ext x2) (by omega)).mono ?_
 rintro _ m3 ⟨q,rfl,oq,x3⟩
 obtain ⟨ro3,C3,A3,le3⟩:=Own.roled oq x3 C2.new 2
 have z3:=x3.size
 have kp:∀ {M M':Mem},Ext M M'->m.size < M.size->∀ i,gcell M' m.size i=gcell M m.size i:=fun hx hlt i=>q16 (hx.same _ hlt) i
 have X3:=x2.trans x3
 refine ⟨x3.sam (by simp; omega),q,rfl,kp x3 (by omega) _,kp x3 (by omega) _,(qls (N:=m0.size) C3.new (fun b _=>by have:=le3 b; have:=le2 b; omega) (hs.ext X3).heap (by omega) hsm.fl (by omega)).mono ?_⟩
 rintro _ m4 ⟨ro4,r,rfl,H4,C4,x4⟩
 have z4:=x4.size
 have X4:=X3.trans x4
 have K4:Cpy m0 ro m ro4 m4 q r s:=⟨((C2.trans C3).mono fun _=>False.elim:Ch2 ro m ro3 m3).trans (C4.mono fun k hk=>by omega),A3.chg C4 (by decide),H4⟩
 have hfl:=hs.frames.len
 obtain ⟨css0,R0,hrow⟩:=(hs.ext X4).frames.rowsOf (fun cs x ⟨_,_,_,e,_⟩=>by rw [e]; rfl)
 refine ⟨x4.sam (by simp; omega),r,rfl,kp x4 (by omega) _,(qfq hfl R0.len R0.size hrow (by omega)).mono ?_⟩
 rintro _ m5 ⟨fc,rfl,of,x5⟩
 obtain ⟨ro5,C5,A5,le5⟩:=Own.roled of x5 C4.new 4
 have z5:=x5.size
 have K5:=K4.step C5 fun _=>False.elim
 refine ⟨x5.sam (by simp; omega),fc,rfl,?_⟩
 intro m6 m7 m8
 have r5:ro5 m.size=8/\ro5 m1.size=8:=⟨by rw [C5.role _ (by omega),C4.role _ (by omega),C3.role _ (by omega)]; exact r0.1,by rw [C5.role _ (by omega),C4.role _ (by omega),C3.role _ (by omega)]; exact r0.2⟩
 have C8:Chg (fun k=>k=8) ro5 m5 ro5 m8:=((Chg.scells C5.new (show (fun k=>k=8) (ro5 m.size) from r5.1) _ _).trans (Chg.scells (by rw [q02]; exact C5.new) (show (fun k=>k=8) (ro5 m.size) from r5.1) _ _)).trans (Chg.scells (by rw [q02,q02]; exact C5.new) (show (fun k=>k=8) (ro5 m.size) from r5.1) _ _)
 have K8:Cpy m0 ro m ro5 m8 q r s:=K5.step C8 fun k hk=>by omega
 have A8:Arr ro5 m8 q1l 6 4 fc css0.flatten:=A5.chg C8 (by decide)
 have kB8:Blk m8 m1.size q1s [.i 0,.i 0,.i 0,.i 0,.s .nil,.s .nil,.s .nil]:=((kB2.ext (x3.trans (x4.trans x5))).congr (by
  show (scells (scells (scells m5 m.size 4 _) m.size 5 _) m.size 6 _)[m1.size]?=_
  rw [q0n _ _ _ _ (by omega),q0n _ _ _ _ (by omega),q0n _ _ _ _ (by omega)]))
 have s8:m8.size=m5.size:=by simp [m8,m7,m6,q02]
 clear_value m8
 have hfc:fc.len=s.frames.length:=by have:=A8.len; rw [q0g R0.size,R0.len] at this; omega
 refine forI (n:=s.frames.length) (by omega) (fun k M=>∃ ro' css,Cpy m0 ro m ro' M q r s/\FMix ro' M fc s.frames css0 css k/\m5.size<=M.size/\ro' m.size=8/\ro' m1.size=8/\Blk M m1.size q1s [.i 0,.i 0,.i 0,.i 0,.s .nil,.s .nil,.s .nil])
  ⟨ro5,css0,K8,⟨A8,R0.len,R0.size,fun j _ _ hj=>absurd hj (Nat.not_lt_zero _),fun _ _=>rfl⟩,by omega,r5.1,r5.2,kB8⟩ ?_
 rintro k m9 I μ hk ⟨ro9,css,K9,F9,z9,r9,r9',kB9⟩ next
 have en:Int.toNat (k:Int)=k:=by omega
 rw [en]
 have ex9:∀ {ro':Nat->Nat} {M:Mem},Ch2 ro m ro' M->Ext m M:=fun c=>(c.none fun b _=>hro b).toExt
 refine ⟨fun h1=>?_,fun h1=>?_⟩
 ·simp only [decide_eq_true_eq] at h1
  have hkl:k < s.frames.length:=by omega
  obtain ⟨f,hf⟩:=q00 hkl
  have hfb:=hsm.frames f (q05 hf)
  obtain ⟨cs0,hcs0⟩:=q00 (l:=css0) (k:=k) (by rw [R0.len]; exact hkl)
  obtain ⟨ra,oa,ha,e0,ir,io,ih⟩:=R0.each k cs0 f hcs0 hf
  have hcs:css[k]?=some [.i f.proc,.i f.pc,.i f.dst,.s ra,.s oa,.s ha]:=by rw [F9.rest k (Nat.le_refl _),hcs0,e0]
  have hrow9:∀ (i:Nat) (x:Ce),[Ce.i f.proc,.i f.pc,.i f.dst,.s ra,.s oa,.s ha][i]?=some x->gcell m9 fc.blk (fc.off+k*6+i)=some x.v:=fun i x hx=>by
   have:=F9.arr.row (k*6+i) x (q1z F9.size hcs hx)
   rwa [← Nat.add_assoc] at this
  obtain ⟨r',o',h',jr,jo,jh,_,_,_,y3,y4,y5⟩:=hs.frames.at' hf
  have X9:=ex9 K9.chg
  have er:r'=ra/\o'=oa/\h'=ha:=by
   obtain ⟨cs1,⟨a1,b1,c1,e1,_⟩,hr1⟩:=hs.frames.row k f hf
   have g3:gcell m4 fr.blk (fr.off+k*6+3)=some (Sl.v ra):=by
    have:=hrow (k*6+3) (.s ra) (q1z R0.size hcs0 (by rw [e0]; rfl))
    rwa [← Nat.add_assoc] at this
   have g4:gcell m4 fr.blk (fr.off+k*6+4)=some (Sl.v oa):=by
    have:=hrow (k*6+4) (.s oa) (q1z R0.size hcs0 (by rw [e0]; rfl))
    rwa [← Nat.add_assoc] at this
   have g5:gcell m4 fr.blk (fr.off+k*6+5)=some (Sl.v ha):=by
    have:=hrow (k*6+5) (.s ha) (q1z R0.size hcs0 (by rw [e0]; rfl))
    rwa [← Nat.add_assoc] at this
   rw [X4.gcell y3] at g3; rw [X4.gcell y4] at g4; rw [X4.gcell y5] at g5
   exact ⟨Sl.v_inj.1 (Option.some.inj g3),Sl.v_inj.1 (Option.some.inj g4),Sl.v_inj.1 (Option.some.inj g5)⟩
  obtain ⟨rfl,rfl,rfl⟩:=er
  refine ⟨by omega,by omega,_,hrow9 0 _ rfl,_,hrow9 1 _ rfl,_,hrow9 2 _ rfl,_,hrow9 3 _ rfl,_,hrow9 4 _ rfl,_,hrow9 5 _ rfl,?_⟩
  intro m10 m11
  have x11:Ext m9 m11:=((Ext.refl m9).pushed _).scells (Nat.le_refl _) _ _
  have s11:m11.size=m9.size+1:=by simp [m11,m10,q02]
  clear_value m11
  have D11:Chg (fun _=>False) ro9 m9 (upd ro9 m9.size 8) m11:=Chg.upd x11 K9.chg.new (Nat.le_refl _) (by omega) 8
  refine (q1k (jr.ext (X9.trans x11)) (by omega)).mono ?_
  rintro _ m12 ⟨qr,rfl,o12,x12⟩
  obtain ⟨ro12,D12,A12,_⟩:=Own.roled o12 x12 D11.new (10+3*k)
  have z12:=x12.size
  have kk:∀ {M M':Mem} {b:Nat},Ext M M'->b < M.size->∀ i,gcell M' b i=gcell M b i:=fun hx hlt i=>q16 (hx.same _ hlt) i
  have bl:∀ {M:Mem},m11.size<=M.size->∀ b ∈ [m9.size,m.size,m1.size],b < M.size:=fun h b hb=>by simp at hb; omega
  refine ⟨x12.sam (bl (Nat.le_refl _)),qr,rfl,kk x12 (by omega) _,kk x12 (by omega) _,kk x12 (by omega) _,kk x12 (by omega) _,kk x12 (by omega) _,(q1k (jo.ext (X9.trans (x11.trans x12))) (by omega)).mono ?_⟩
  rintro _ m13 ⟨qo,rfl,o13,x13⟩
  obtain ⟨ro13,D13,A13,_⟩:=Own.roled o13 x13 D12.new (11+3*k)
  have z13:=x13.size
  refine ⟨x13.sam (bl (by omega)),qo,rfl,kk x13 (by omega) _,kk x13 (by omega) _,kk x13 (by omega) _,kk x13 (by omega) _,(q1k (jh.ext (X9.trans (x11.trans (x12.trans x13)))) (by omega)).mono ?_⟩
  rintro _ m14 ⟨qh,rfl,o14,x14⟩
  obtain ⟨ro14,D14,A14,_⟩:=Own.roled o14 x14 D13.new (12+3*k)
  have z14:=x14.size
  have D9:Chg (fun _=>False) ro9 m9 ro14 m14:=((D11.trans D12).trans D13).trans D14
  have R14:ro14 m9.size=8/\ro14 m.size=8/\ro14 m1.size=8:=⟨by rw [D14.role _ (by omega),D13.role _ (by omega),D12.role _ (by omega)]; exact q21 _ _ _,by rw [D9.role _ (by omega)]; exact r9,by rw [D9.role _ (by omega)]; exact r9'⟩
  have A9:=F9.arr.chg D9 id
  have hcap:fc.cap ≠ 0:=fun e=>by have:=F9.arr.le; omega
  have rb:=A9.blk hcap
  have rbn:fc.blk ≠ m.size/\fc.blk ≠ m1.size/\fc.blk ≠ m9.size:=⟨fun e=>by have:=rb.2; rw [e,R14.2.1] at this; omega,fun e=>by have:=rb.2; rw [e,R14.2.2] at this; omega,fun e=>by have:=rb.2; rw [e,R14.1] at this; omega⟩
  have hcl:=F9.len
  have fit:∀ o,o < 6->k*6+o+1<=css.flatten.length:=fun o ho=>by rw [q0g F9.size]; have:(k+1)*6<=css.length*6:=Nat.mul_le_mul_right _ (by omega); omega
  have sm:∀ {M:Mem} (o:Nat) (l:List Ce),Sam [m9.size,m.size,m1.size] M (scells M fc.blk o l):=fun o l b hb=>q0n _ _ _ _ (by simp at hb; omega)
  have gg:∀ {M:Mem} (o:Nat) (l:List Ce) (i:Nat),gcell (scells M fc.blk o l) m.size i=gcell M m.size i:=fun o l i=>q16 (q0n _ _ _ _ (fun e=>rbn.1 e.symm)) i
  refine ⟨x14.sam (bl (by omega)),qh,rfl,kk x14 (by omega) _,kk x14 (by omega) _,kk x14 (by omega) _,by omega,by omega,?_⟩
  simp -zeta only [Nat.add_assoc]
  refine ⟨A9.wr (fit 3 (by decide)),?_⟩
  obtain ⟨e1,f1,h1'⟩:=setRow (x:=.s qr) (o:=3) F9.size hcs (by decide)
  have A15:=A9.set (o:=k*6+3) (new:=[.s qr]) (fit 3 (by decide))
  rw [e1] at A15
  intro m15
  obtain ⟨e2,f2,h2'⟩:=setRow (x:=.s qo) (o:=4) f1 h1' (by decide)
  have A16:=A15.set (o:=k*6+4) (new:=[.s qo]) (by have:=fit 4 (by decide); rw [q0g F9.size] at this; rw [q0g f1,List.length_set]; exact this)
  rw [e2] at A16
  refine ⟨sm _ _,gg _ _ _,gg _ _ _,by omega,by omega,A15.wr (by have:=fit 4 (by decide); rw [q0g F9.size] at this; rw [q0g f1,List.length_set]; exact this),?_⟩
  intro m16
  obtain ⟨e3,f3,h3'⟩:=setRow (x:=.s qh) (o:=5) f2 h2' (by decide)
  have A17:=A16.set (o:=k*6+5) (new:=[.s qh]) (by have:=fit 5 (by decide); rw [q0g F9.size] at this; rw [q0g f2,List.length_set,List.length_set]; exact this)
  rw [e3] at A17
  refine ⟨sm _ _,gg _ _ _,by omega,by omega,A16.wr (by have:=fit 5 (by decide); rw [q0g F9.size] at this; rw [q0g f2,List.length_set,List.length_set]; exact this),?_⟩
  intro m17
  have C17:Chg (fun k=>k=4) ro14 m14 ro14 m17:=((Chg.scells D14.new (show (fun k=>k=4) (ro14 fc.blk) from rb.2) _ _).trans (Chg.scells (by rw [q02]; exact D14.new) (show (fun k=>k=4) (ro14 fc.blk) from rb.2) _ _)).trans (Chg.scells (by rw [q02,q02]; exact D14.new) (show (fun k=>k=4) (ro14 fc.blk) from rb.2) _ _)
  have s17:m17.size=m14.size:=by simp [m17,m16,m15,q02]
  have frm:Frm ro14 m17 k [.i f.proc,.i f.pc,.i f.dst,.s qr,.s qo,.s qh] f:=⟨qr,qo,qh,rfl,(((A12.chg D13 id).chg D14 id).chg C17 (by omega)),(A13.chg D14 id).chg C17 (by omega),A14.chg C17 (by omega)⟩
  refine ⟨sm _ _,next (by omega) _ ⟨ro14,_,(K9.step D9 fun _=>False.elim).step C17 fun k hk=>by omega,⟨A17,by simp; exact F9.len,f3,fun j cs g hj hcj hg=>?_,fun j hj=>?_⟩,by omega,R14.2.1,R14.2.2,(kB9.ext D9.toExt).congr (C17.keep _ (by omega) (by rw [R14.2.2]; decide))⟩⟩
  ·rcases Nat.lt_or_ge j k with h5 | h5
   ·rw [List.getElem?_set_ne (by omega),List.getElem?_set_ne (by omega),List.getElem?_set_ne (by omega)] at hcj
    exact ((F9.done j cs g h5 hcj hg).chg D9 fun _ _ _=>id).chg C17 fun k hk _=>by omega
   ·have:j=k:=by omega
    subst this
    rw [h3'] at hcj
    simp at hcj; subst hcj
    rw [hf] at hg; simp at hg; subst hg; exact frm
  ·rw [List.getElem?_set_ne (by omega),List.getElem?_set_ne (by omega),List.getElem?_set_ne (by omega)]; exact F9.rest j (by omega)
 ·simp only [decide_eq_false_iff_not] at h1
  intro m10
  have C10:Chg (fun k=>k=8) ro9 m9 ro9 m10:=Chg.scells K9.chg.new (show (fun k=>k=8) (ro9 m1.size) from r9') _ _
  have K10:=K9.step C10 fun k hk=>by omega
  have hlt:∀ {j:Nat} {cs:List Ce},css[j]?=some cs->j < k:=fun hj=>by have:=q04 hj; have:=F9.len; omega
  have hFr:FrmL ro9 m9 fc s.frames:=⟨css,F9.arr,F9.len,F9.size,fun i cs f h1 h2=>F9.done i cs f (hlt h1) h1 h2⟩
  have D:=K10.chg.none fun b _=>hro b
  exact ⟨ro9,q,r,fc,rfl,⟨B.chg D,K10.out,K10.heap,hFr.chg C10 fun k hk=>by omega⟩,D⟩
end
end Go.Proofs.YtpggcodlaajceaaGreat
