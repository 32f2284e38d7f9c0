/- Part of a proof, joined by a program: Iv1 Iv2 Iv3 Iv4 Iv5 Mv1 Ms1 Ms2. -/
import Derived.Test.YtpggcodlaajceaaGreatT05
set_option linter.unusedVariables false
set_option linter.unusedSimpArgs false
namespace Go.Proofs.YtpggcodlaajceaaGreat
open Go.Vc
section
theorem SlOf.cut0 {α:Type} {m:Mem} {sz:Nat} {R:List Ce->α->Prop} {s:Sl} {l:List α} (h:SlOf m sz R s l) {k:Nat} (hk:k<=l.length):SlOf m sz R (s.cut 0 k sz) (l.take k):=by
 have hl:=h.len
 have hc:=h.cap
 have hm:=h.lim
 cases s with
 | nil =>
  simp at hl
  have:k=0:=by omega
  subst this
  exact ⟨by simp [Sl.cut],by simp [Sl.cut],by simp [Sl.cut],by simp⟩
 | emp b o sp =>
  simp at hl
  have:k=0:=by omega
  subst this
  exact ⟨by simp [Sl.cut],by simp [Sl.cut],by simp [Sl.cut],by simp⟩
 | mk b o n c =>
  simp only [Sl.len_mk,Sl.cap_mk] at hl hc hm
  refine ⟨by simp [Sl.cut]; omega,by simp [Sl.cut]; omega,by simp [Sl.cut]; omega,fun j x hj=>?_⟩
  have hj':j < k:=by have:=q04 hj; simp at this; omega
  rw [List.getElem?_take,if_pos hj'] at hj
  have:=h.row j x hj
  simpa [Sl.cut] using this
theorem q6y (decls:Sl) (t:Int) (m:Mem):q0o Tryz.prog q4v [Sl.v decls,vi t] m (IsTy decls.len t):=by
 apply qlj
 refine ⟨fun h=>retB ?_ (Ext.refl _),fun h=>retF ?_ (Ext.refl _)⟩ <;> simp at h
 ·simp [IsTy,h]
 ·unfold IsTy; omega
theorem qdl {m:Mem} {list:Sl} {l:List Int} (hl:q03 m list l) (decls:Sl):q0o Tryz.prog q6c [Sl.v decls,Sl.v list] m (AllTy decls.len l):=by
 apply qhe
 have hll:=hl.len
 refine forI (n:=l.length) (hll ▸ hl.lim) (fun k m'=>Ext m m'/\∀ t ∈ l.take k,IsTy decls.len t) ⟨Ext.refl _,by simp⟩ ?_
 rintro k m1 I μ hk ⟨hx,hn⟩ next
 refine ⟨fun h=>?_,fun h=>?_⟩
 ·simp only [decide_eq_true_eq] at h
  obtain ⟨x,hx1⟩:=q00 (l:=l) (k:=k) (by omega)
  refine ⟨by omega,by omega,x,by simpa using hx.gcell (hl.at' hx1),?_⟩
  refine (q6y _ _ _).then fun b m2 hb h2=>⟨_,rfl,fun h=>?_,fun h=>?_⟩
  ·exact retF (fun hp=>nb hb h (hp x (q05 hx1))) (hx.trans h2)
  ·exact next (by omega) _ ⟨hx.trans h2,q0f hx1 hn (yb hb h)⟩
 ·simp only [decide_eq_false_iff_not] at h
  exact retT (q0w (by omega) hn) hx
theorem q9p (op:Int) (m:Mem) (h7:op ≠ 7/\op ≠ 8):q0o Tryz.prog q4p [vi op] m (Sets op):=by
 apply qdu
 refine ⟨fun h=>⟨fun h2=>retT ?_ (Ext.refl _),fun h2=>⟨fun h3=>retT ?_ (Ext.refl _),fun h3=>retB ?_ (Ext.refl _)⟩⟩,fun h=>⟨fun h3=>retT ?_ (Ext.refl _),fun h3=>retB ?_ (Ext.refl _)⟩⟩ <;> simp [Sets] at*<;> omega
theorem q8s {m:Mem} {decls:Sl} {ds:List Decl} (hd:q0q m decls ds) (hlen:ds.length<=4) (hb:∀ d ∈ ds,d.cons.length<=3):Gets Tryz.prog q3j [Sl.v decls] m (vi (q17 ds).length):=by
 apply qhs
 simp -zeta only [q09,q0a,rI,rS,rB,cI,cB,cS,dI,dB,dS,gk,rg]
 have hdl:=hd.len
 refine forSI (n:=ds.length) (by omega) (fun j n m'=>Ext m m'/\n=(fc ds j:Nat)/\fc ds j<=3*j) ⟨Ext.refl _,by cases ds <;> rfl,by cases ds <;> simp [fc]⟩ ?_
 rintro j n m1 I μ hj ⟨hx,rfl,h3⟩ next
 refine ⟨fun h=>?_,fun h=>?_⟩
 ·simp only [decide_eq_true_eq] at h
  obtain ⟨d,hd1⟩:=q00 (l:=ds) (k:=j) (by omega)
  obtain ⟨f,hf,g0,g1,g2⟩:=(q0q.ext hx hd).at' hd1
  refine ⟨by omega,by omega,_,g0,_,g1,f,g2,?_⟩
  intro m2 m3
  have h2:=hb d (q05 hd1)
  refine next (by omega) _ _ ⟨(hx.pushed _).scells hx.size _ _,?_,?_⟩
  ·rw [q07 (by omega) (by have:=hf.len; omega),q6s hd1,hf.len]; rfl
  ·rw [q6s hd1]; omega
 ·simp only [decide_eq_false_iff_not] at h
  refine ⟨?_,hx⟩
  rw [fc_all ds j (by omega)]
theorem qpb {ds:List Decl} (h:TypesOk ds):∀ d ∈ ds,d.cons.length<=3:=fun d hd=>by
 obtain ⟨k,hk⟩:=List.mem_iff_getElem?.1 hd
 exact q5n h hk
theorem qs9:∀ (ds:List Decl) (k:Nat),(q17 (ds.take k)).length=fc ds k
 | [],k=>by simp [q17,fc_nil]
 | d :: ds,0=>by simp [q17,fc]
 | d :: ds,k+1=>by
  have:=qs9 ds k
  simp only [List.take_succ_cons,q17,List.flatMap_cons,List.length_append,fc] at this ⊢
  omega
theorem qao {m:Mem} {decls:Sl} {ds:List Decl} (hd:q0q m decls ds) (ht:TypesOk ds) (t:Int):q08 Tryz.prog q5y [Sl.v decls,vi t] m fun v m'=>∃ s,v=Sl.v s/\q03 m' s (q1h ds t)/\Ext m m':=by
 apply ql5
 simp -zeta only [q09,q0a,rI,rS,rB,cI,cB,cS,dI,dB,dS,gk,rg]
 have hdl:=hd.len
 have hdc:=hd.cap
 have hn0:∀ (h:¬ (1<=t/\t<=ds.length)),q03 m .nil (q1h ds t):=fun h=>by
  unfold q1h; rw [if_neg h]
  exact ⟨rfl,Nat.le_refl _,by simp,by simp⟩
 have:=ht.len
 refine ⟨fun h=>?_,fun h=>?_⟩
 ·simp only [decide_eq_true_eq] at h
  exact ⟨_,rfl,hn0 (by omega),Ext.refl _⟩
 simp only [decide_eq_false_iff_not] at h
 refine ⟨fun h1=>?_,fun h1=>?_⟩
 ·simp only [decide_eq_true_eq] at h1
  exact ⟨_,rfl,hn0 (by omega),Ext.refl _⟩
 simp only [decide_eq_false_iff_not] at h1
 have e1:w64 (t - 1)=((t.toNat - 1:Nat):Int):=by rw [q07 (by omega) (by omega)]; omega
 rw [e1]
 obtain ⟨d,hd1⟩:=q00 (l:=ds) (k:=t.toNat - 1) (by omega)
 have e2:q1h ds t=(List.range d.cons.length).map fun i=>((fc ds (t.toNat - 1)+i:Nat):Int):=by
  unfold q1h
  rw [if_pos (by omega),hd1]; rfl
 rw [e2]
 have h12:=fc_12 ht (t.toNat - 1)
 have h6:=q5n ht hd1
 refine ⟨by omega,by omega,by omega,?_⟩
 have hcut:q0q m (decls.cut 0 (t.toNat - 1) 3) (ds.take (t.toNat - 1)):=SlOf.cut0 hd (by omega)
 have hcc:=q8s hcut (by simp; omega) (fun d hd=>qpb ht d (List.mem_of_mem_take hd))
 rw [qs9] at hcc
 refine hcc.then fun m1 hx1=>⟨_,rfl,?_⟩
 obtain ⟨f,hf,g0,g1,g2⟩:=(q0q.ext hx1 hd).at' hd1
 have hfl:=hf.len
 refine ⟨by omega,by omega,f,by simpa using g2,?_⟩
 refine forSI (n:=d.cons.length) (by omega) (fun j s m'=>Ext m m'/\Own m m' ty_int 1 s (((List.range j).map fun i=>((fc ds (t.toNat - 1)+i:Nat):Int)).map Ce.i)/\s.len=j) ⟨hx1,by simpa using Own.nil m m1 ty_int 1,rfl⟩ ?_
 rintro j s m3 I μ hj ⟨hx,hs,hsl⟩ next
 refine ⟨fun h3=>?_,fun h3=>?_⟩
 ·simp only [decide_eq_true_eq] at h3
  intro m5
  have e3:w64 (((fc ds (t.toNat - 1):Nat):Int)+(j:Int))=((fc ds (t.toNat - 1)+j:Nat):Int):=by rw [q07 (by omega) (by omega)]; omega
  have hm5:m5=m3.push (.cells (vals [.i (((fc ds (t.toNat - 1)+j:Nat):Int))]) ty_int):=by rw [← e3]
  clear_value m5
  subst hm5
  refine Own.append (zs:=[.i 0]) (new:=[.i ((fc ds (t.toNat - 1)+j:Nat):Int)]) (hs.ext (Ext.push _ _)) (hx.pushed _) rfl (Blk.push _ _ _).row (by simp [hsl]; omega) ?_
  intro r m' h7 h8 h9 h10 h11 _
  refine next (by omega) _ _ ⟨h8,?_,by simp [h9,hsl]⟩
  rw [List.range_succ,List.map_append,List.map_append]
  exact h7
 ·simp only [decide_eq_false_iff_not] at h3
  have:j=d.cons.length:=by omega
  subst this
  exact ⟨_,rfl,q03.ofOwn hs (by simp; omega),hx⟩
theorem qrw {ds:List Decl} {i j:Nat} {d:Decl} {f:List Int} (h:ds[i]?=some d) (hj:d.cons[j]?=some f):q2m ds ((fc ds i+j:Nat):Int)=f:=by
 unfold q2m
 rw [if_pos (by omega),Int.toNat_natCast,qek ds i j d h (q04 hj),hj]; rfl
theorem qqf {m:Mem} {decls:Sl} {ds:List Decl} (hd:q0q m decls ds) (ht:TypesOk ds) (c:Int) (hc:-1000000<=c/\c<=1000000):q08 Tryz.prog qd3 [Sl.v decls,vi c] m fun v m'=>∃ t s,v=.tuple #[vi t,.agg #[Sl.v s]]/\q03 m' s (q2m ds c)/\Ext m m':=by
 apply qmp
 simp -zeta only [q09,q0a,rI,rS,rB,cI,cB,cS,dI,dB,dS,gk,rg]
 intro m1
 have hx0:Ext m m1:=(Ext.refl m).pushed _
 have hs1:m.size < m1.size:=by simp [m1]
 clear_value m1
 have hdl:=hd.len
 have:=ht.len
 refine forSI (n:=ds.length) (by omega) (fun j c' m'=>Ext m m'/\m1.size<=m'.size/\c'=c - (fc ds j:Nat)/\¬ (0<=c/\c < fc ds j)) ⟨hx0,Nat.le_refl _,by cases ds <;> simp [fc],by cases ds <;> simp [fc]⟩ ?_
 rintro j c' m2 I μ hj ⟨hx,hsz,rfl,hno⟩ next
 refine ⟨fun h=>?_,fun h=>?_⟩
 ·simp only [decide_eq_true_eq] at h
  obtain ⟨d,hd1⟩:=q00 (l:=ds) (k:=j) (by omega)
  obtain ⟨f,hf,g0,g1,g2⟩:=(q0q.ext hx hd).at' hd1
  have hfl:=hf.len
  have h12:=fc_12 ht j
  have h6:=q5n ht hd1
  refine ⟨by omega,by omega,_,g0,_,g1,f,g2,?_⟩
  intro m3 m4
  have hx4:Ext m2 m4:=((Ext.refl m2).pushed _).scells (Nat.le_refl _) _ _
  have hnext:¬ (0<=c - (fc ds j:Nat)/\c - (fc ds j:Nat) < d.cons.length)->I (w64 (c - (fc ds j:Nat) - (f.len:Int))) (w64 ((j:Int)+1)) m4/\μ (w64 (c - (fc ds j:Nat) - (f.len:Int))) (w64 ((j:Int)+1)) m4 < μ (c - (fc ds j:Nat)) j m2:=by
   intro hq
   refine next (by omega) _ _ ⟨hx.trans hx4,Nat.le_trans hsz hx4.size,?_,?_⟩
   ·rw [q07 (by omega) (by omega),q6s hd1]; omega
   ·rw [q6s hd1]; omega
  refine ⟨fun h1=>⟨fun h2=>?_,fun h2=>hnext ?_⟩,fun h1=>hnext ?_⟩
  ·simp only [decide_eq_true_eq] at h1 h2
   obtain ⟨x,hx1⟩:=q00 (l:=d.cons) (k:=(c - (fc ds j:Nat)).toNat) (by omega)
   obtain ⟨g,hg,gg⟩:=(ConSl.ext hx4 hf).at' hx1
   refine ⟨by omega,by omega,g,gg,?_⟩
   intro m5
   have hx5:Ext m m5:=(hx.trans hx4).scells (Nat.le_refl _) _ _
   refine ⟨_,g,rfl,?_,hx5⟩
   have e:q2m ds c=x:=by
    have:=qrw hd1 hx1
    rw [← this]; congr 1; omega
   rw [e]
   obtain ⟨f',hf',_,_,g2'⟩:=hd.at' hd1
   have hff:f=f':=by
    have:=hx.gcell g2'
    rw [g2] at this
    exact Sl.v_inj.1 (by simpa using this)
   subst hff
   obtain ⟨g',hg',gg'⟩:=hf'.at' hx1
   have hgg:g=g':=by
    have:=(hx.trans hx4).gcell gg'
    rw [gg] at this
    exact Sl.v_inj.1 (by simpa using this)
   subst hgg
   exact hg'.ext hx5
  ·simp at h1 h2; omega
  ·simp at h1; omega
 ·simp only [decide_eq_false_iff_not] at h
  intro m5
  have hx5:Ext m m5:=hx.scells (Nat.le_refl _) _ _
  refine ⟨_,.nil,rfl,?_,hx5⟩
  have e:q2m ds c=[]:=by
   unfold q2m
   split
   ·rw [List.getElem?_eq_none (by rw [← fc_all ds j (by omega)]; omega)]; rfl
   ·rfl
  rw [e]
  exact ⟨rfl,Nat.le_refl _,by simp,by simp⟩
theorem qn9 {m:Mem} {decls:Sl} {ds:List Decl} (hd:q0q m decls ds) (ht:TypesOk ds) (c:Int) (hc:-1000000<=c/\c<=1000000):q08 Tryz.prog q97 [Sl.v decls,vi c] m fun v m'=>∃ s,v=Sl.v s/\q03 m' s (q2m ds c)/\Ext m m':=by
 apply qhw
 simp -zeta only [q09,q0a,rI,rS,rB,cI,cB,cS,dI,dB,dS,gk,rg]
 refine (qqf hd ht c hc).mono ?_
 rintro _ m1 ⟨t,s,rfl,hs,hx⟩
 refine ⟨t,s,rfl,?_⟩
 intro m2 m3
 have hx3:Ext m1 m3:=((Ext.refl m1).pushed _).scells (Nat.le_refl _) _ _
 exact ⟨s,rfl,hs.ext hx3,hx.trans hx3⟩
theorem qdz {m:Mem} {s:Sl} {l:List Int} (hl:q03 m s l) (g:Nat) (fs cs:Array Value) (hg:GL.elem g=true) (q:Int->Prop)
  (hf:∀ x ∈ l,∀ m',Ext m m'->q0o Tryz.prog g (fs.toList ++ [vi x] ++ cs.toList) m' (q x)) :
  q08 Tryz.prog q47 [Sl.v s,.func (.func g) fs cs] m fun v m'=>∃ r:Int,v=vi r/\Ext m m' /\
   ((r=-1/\∀ x ∈ l,¬ q x) \/ ∃ (k:Nat) (x:Int),r=k/\l[k]?=some x/\q x/\∀ y ∈ l.take k,¬ q y):=by
 apply q96 s (.func g,fs,cs)
 have hll:=hl.len
 refine forI (n:=l.length) (hll ▸ hl.lim) (fun k m'=>Ext m m'/\∀ y ∈ l.take k,¬ q y) ⟨Ext.refl _,by simp⟩ ?_
 rintro k m1 I μ hk ⟨hx,hn⟩ next
 refine ⟨fun h=>?_,fun h=>?_⟩
 ·simp only [decide_eq_true_eq] at h
  obtain ⟨x,hx1⟩:=q00 (l:=l) (k:=k) (by omega)
  refine ⟨by omega,by omega,x,by simpa using hx.gcell (hl.at' hx1),g,rfl,hg,?_⟩
  refine (hf x (q05 hx1) m1 hx).then fun b m2 hb h2=>⟨_,rfl,fun h=>?_,fun h=>?_⟩
  ·exact ⟨_,rfl,hx.trans h2,Or.inr ⟨k,x,rfl,hx1,hb.1 h,hn⟩⟩
  ·exact next (by omega) _ ⟨hx.trans h2,q0f hx1 hn (fb hb h)⟩
 ·simp only [decide_eq_false_iff_not] at h
  exact ⟨_,rfl,hx,Or.inl ⟨rfl,q0w (by omega) hn⟩⟩
theorem q37 {m:Mem} {s:Sl} {l:List Int} (hl:q03 m s l) (g:Nat) (fs cs:Array Value) (hg:GL.elem g=true) (q:Int->Prop)
  (hf:∀ x ∈ l,∀ m',Ext m m'->q0o Tryz.prog g (fs.toList ++ [vi x] ++ cs.toList) m' (q x)) :
  q0o Tryz.prog q12 [Sl.v s,.func (.func g) fs cs] m (∃ x ∈ l,q x):=by
 apply q7q s (.func g,fs,cs)
 refine (qdz hl g fs cs hg q hf).mono ?_
 rintro _ m1 ⟨r,rfl,hx,h⟩
 refine ⟨_,rfl,retB ?_ hx⟩
 simp only [ge_iff_le,decide_eq_true_eq]
 rcases h with ⟨rfl,h⟩ | ⟨k,x,rfl,h1,h2,h3⟩
 ·exact ⟨fun h'=>by omega,fun ⟨x,h1,h2⟩=>absurd h2 (h x h1)⟩
 ·exact ⟨fun _=>⟨x,q05 h1,h2⟩,fun _=>by omega⟩
end
section
theorem q4d {ds:List Decl} {k:Nat} {d:Decl}:DeclOk ds k d ↔ ((IsTy ds.length d.frm/\IsTy ds.length d.to/\d.cons.length<=3/\(0 < d.cons.length->d.frm=0/\d.to=0)) /\
  (∀ f ∈ d.cons,f.length<=3/\AllTy ds.length f)/\∀ e ∈ ds.take k,¬ (d.cons.length=0/\e.cons.length=0/\e.frm=d.frm/\e.to=d.to)):=by
 constructor
 ·intro h
  rcases Nat.eq_zero_or_pos d.cons.length with h0 | h0
  ·obtain ⟨h1,h2,h3⟩:=h.none' h0
   refine ⟨⟨h2,h3,by omega,fun h=>by omega⟩,fun f hf=>?_,fun e he hq=>h1 e he hq.2⟩
   rw [List.length_eq_zero_iff.1 h0] at hf; cases hf
  ·obtain ⟨h1,h2,h3,h4⟩:=h.some' h0
   exact ⟨⟨by unfold IsTy; omega,by unfold IsTy; omega,h1,fun _=>⟨h2,h3⟩⟩,h4,fun e he hq=>by omega⟩
 ·rintro ⟨⟨h1,h2,h3,h4⟩,h5,h6⟩
  exact ⟨fun h0=>⟨h3,(h4 h0).1,(h4 h0).2,h5⟩,fun h0=>⟨fun e he hq=>h6 e he ⟨h0,hq⟩,h1,h2⟩⟩
set_option maxHeartbeats 1000000 in
theorem qk8 {m:Mem} {decls:Sl} {ds:List Decl} (hd:q0q m decls ds):q0o Tryz.prog q79 [Sl.v decls] m (TypesOk ds):=by
 apply qfk
 simp -zeta only [q09,q0a,rI,rS,rB,cI,cB,cS,dI,dB,dS,gk,rg]
 have hdl:=hd.len
 have hdc:=hd.cap
 refine ⟨fun h=>?_,fun h=>?_⟩
 ·simp only [decide_eq_true_eq] at h
  exact retF (fun hp=>by have:=hp.len; omega) (Ext.refl _)
 simp only [decide_eq_false_iff_not] at h
 refine forI (n:=ds.length) (by omega) (fun k m'=>Ext m m'/\∀ (j:Nat) (d:Decl),j < k->ds[j]?=some d->DeclOk ds j d) ⟨Ext.refl _,by simp⟩ ?_
 rintro j m1 I μ hj ⟨hx,hn⟩ next
 refine ⟨fun h1=>?_,fun h1=>?_⟩
 ·simp only [decide_eq_true_eq] at h1
  obtain ⟨d,hd1⟩:=q00 (l:=ds) (k:=j) (by omega)
  obtain ⟨f,hf,g0,g1,g2⟩:=(q0q.ext hx hd).at' hd1
  have hfl:=hf.len
  refine ⟨by omega,by omega,_,g0,_,g1,f,g2,?_⟩
  intro m2 m3
  have hx3:Ext m1 m3:=((Ext.refl m1).pushed _).scells (Nat.le_refl _) _ _
  have hl:∀ b ∈ [m1.size],b < m3.size:=by simp [m3,m2,q02]
  clear_value m3
  have hxm:=hx.trans hx3
  have bad:∀ {m':Mem},Ext m3 m'->¬ DeclOk ds j d->∃ b':Bool,vb false=.bool b'/\(b'=true ↔ TypesOk ds)/\Ext m m':=fun hx' hno=>retF (fun hp=>hno (hp.each j d hd1)) (hxm.trans hx')
  refine ⟨fun m'=>Ext m3 m'/\IsTy ds.length d.frm/\IsTy ds.length d.to/\d.cons.length<=3/\(0 < d.cons.length->d.frm=0/\d.to=0),?_,?_⟩
  ·refine (q6y _ _ _).thenS (Ext.refl _) hl fun b m4 hb h2 h3=>⟨_,rfl,fun h4=>?_,fun h4=>?_⟩
   ·exact bad h3 fun hp=>nb hb h4 (hdl ▸ (q4d.1 hp).1.1)
   have hfrm:=yb hb h4
   refine (q6y _ _ _).thenS h3 hl fun b m5 hb h5 h6=>⟨_,rfl,fun h7=>?_,fun h7=>?_⟩
   ·exact bad h6 fun hp=>nb hb h7 (hdl ▸ (q4d.1 hp).1.2.1)
   have hto:=yb hb h7
   rw [hdl] at hfrm hto
   refine ⟨fun h8=>?_,fun h8=>?_⟩
   ·simp only [decide_eq_true_eq] at h8
    exact bad h6 fun hp=>by have:=(q4d.1 hp).1.2.2.1; omega
   simp only [decide_eq_false_iff_not] at h8
   refine ⟨fun h9=>?_,fun h9=>?_⟩
   ·simp only [decide_eq_true_eq] at h9
    refine ⟨fun h10=>?_,fun h10=>?_⟩
    ·simp only [bne_iff_ne] at h10
     exact bad h6 fun hp=>h10 ((q4d.1 hp).1.2.2.2 (by omega)).1
    simp only [bne_eq_false_iff_eq] at h10
    refine ⟨fun h11=>?_,fun h11=>?_⟩
    ·simp only [bne_iff_ne] at h11
     exact bad h6 fun hp=>h11 ((q4d.1 hp).1.2.2.2 (by omega)).2
    simp only [bne_eq_false_iff_eq] at h11
    exact ⟨h6,hfrm,hto,by omega,fun _=>⟨h10,h11⟩⟩
   ·simp only [decide_eq_false_iff_not] at h9
    exact ⟨h6,hfrm,hto,by omega,fun h0=>by omega⟩
  ·rintro m4 ⟨hx4,hfirst⟩
   have hf4:=ConSl.ext (hx3.trans hx4) hf
   refine forI (n:=d.cons.length) (by omega) (fun k m'=>Ext m3 m'/\∀ f ∈ d.cons.take k,f.length<=3/\AllTy ds.length f) ⟨hx4,by simp⟩ ?_
   rintro i m5 I2 μ2 hi ⟨hx5,hn5⟩ next5
   refine ⟨fun h2=>?_,fun h2=>?_⟩
   ·simp only [decide_eq_true_eq] at h2
    obtain ⟨c,hc⟩:=q00 (l:=d.cons) (k:=i) (by omega)
    obtain ⟨g,hg,gg⟩:=(ConSl.ext (hx3.trans hx5) hf).at' hc
    have hgl:=hg.len
    refine ⟨by omega,by omega,g,gg,?_⟩
    intro m6 m7
    have hx7:Ext m5 m7:=((Ext.refl m5).pushed _).scells (Nat.le_refl _) _ _
    have hl7:∀ b ∈ [m5.size,m1.size],b < m7.size:=by
     have:=hx5.lt (hl m1.size (by simp))
     simp [m7,m6,q02]; omega
    clear_value m7
    refine ⟨fun h3=>?_,fun h3=>?_⟩
    ·simp only [decide_eq_true_eq] at h3
     exact bad (hx5.trans hx7) fun hp=>by have:=((q4d.1 hp).2.1 c (q05 hc)).1; omega
    simp only [decide_eq_false_iff_not] at h3
    refine (qdl (hg.ext hx7) _).thenS (Ext.refl _) hl7 fun b m8 hb h4 h5=>⟨_,rfl,fun h6=>?_,fun h6=>?_⟩
    ·exact bad ((hx5.trans hx7).trans h4) fun hp=>nb hb h6 (hdl ▸ ((q4d.1 hp).2.1 c (q05 hc)).2)
    ·exact next5 (by omega) _ ⟨(hx5.trans hx7).trans h4,q0f hc hn5 ⟨by omega,hdl ▸ yb hb h6⟩⟩
   ·simp only [decide_eq_false_iff_not] at h2
    have hall:=q0w (by omega) hn5
    refine ⟨by omega,by omega,by omega,?_⟩
    have hcut:q0q m5 (decls.cut 0 j 3) (ds.take j):=SlOf.cut0 (q0q.ext (hxm.trans hx5) hd) (by omega)
    have hcl:(decls.cut 0 j 3).len=j:=by rw [hcut.len]; simp; omega
    simp -zeta only [Int.toNat_natCast,Int.toNat_zero]
    refine forI (n:=j) (by omega) (fun k m'=>Ext m5 m'/\∀ e ∈ ds.take k,¬ (d.cons.length=0/\e.cons.length=0/\e.frm=d.frm/\e.to=d.to)) ⟨Ext.refl _,by simp⟩ ?_
    rintro i2 m6 I3 μ3 hi2 ⟨hx6,hn6⟩ next6
    refine ⟨fun h3=>?_,fun h3=>?_⟩
    ·simp only [decide_eq_true_eq] at h3
     obtain ⟨e,he⟩:=q00 (l:=ds) (k:=i2) (by omega)
     have he':(ds.take j)[i2]?=some e:=by rw [List.getElem?_take,if_pos (by omega)]; exact he
     obtain ⟨f',hf',q0,q1,q2⟩:=(q0q.ext hx6 hcut).at' he'
     have hfl':=hf'.len
     refine ⟨by omega,by omega,_,q0,_,q1,f',q2,?_⟩
     intro m7 m8
     have hx8:Ext m6 m8:=((Ext.refl m6).pushed _).scells (Nat.le_refl _) _ _
     clear_value m8
     have hnext:¬ (d.cons.length=0/\e.cons.length=0/\e.frm=d.frm/\e.to=d.to)->I3 (w64 ((i2:Int)+1)) m8/\μ3 (w64 ((i2:Int)+1)) m8 < μ3 i2 m6:=fun hq=>next6 (by omega) _ ⟨hx6.trans hx8,q0f he hn6 hq⟩
     refine ⟨fun h4=>?_,fun h4=>?_⟩
     ·simp only [beq_iff_eq] at h4
      refine ⟨fun h5=>?_,fun h5=>?_⟩
      ·simp only [beq_iff_eq] at h5
       refine ⟨fun h6=>?_,fun h6=>?_⟩
       ·simp only [beq_iff_eq] at h6
        refine ⟨fun h7=>?_,fun h7=>?_⟩
        ·simp only [beq_iff_eq] at h7
         exact bad ((hx5.trans hx6).trans hx8) fun hp=>(q4d.1 hp).2.2 e (q05 he') ⟨by omega,by omega,h6,h7⟩
        ·simp only [beq_eq_false_iff_ne] at h7
         exact hnext fun hq=>h7 hq.2.2.2
       ·simp only [beq_eq_false_iff_ne] at h6
        exact hnext fun hq=>h6 hq.2.2.1
      ·simp only [beq_eq_false_iff_ne] at h5
       exact hnext fun hq=>h5 (by omega)
     ·simp only [beq_eq_false_iff_ne] at h4
      exact hnext fun hq=>h4 (by omega)
    ·simp only [decide_eq_false_iff_not] at h3
     have:i2=j:=by omega
     subst this
     refine next (by omega) _ ⟨(hxm.trans hx5).trans hx6,fun i' d' hi' hd'=>?_⟩
     by_cases ei:i'=i2
     ·subst ei
      rw [hd1] at hd'; simp at hd'; subst hd'
      exact q4d.2 ⟨hfirst,hall,hn6⟩
     ·exact hn i' d' (by omega) hd'
 ·simp only [decide_eq_false_iff_not] at h1
  exact retT ⟨by omega,fun i d hid=>hn i d (by have:=q04 hid; omega) hid⟩ hx
def SigR (m:Mem) (cs:List Ce) (p:Proc):Prop:=∃ a l,cs=[.s a,.s l,.i p.result]/\q03 m a p.params/\q03 m l p.lent
theorem SigR.ext {m m':Mem} (hm:Ext m m') (cs:List Ce) (c:Proc):SigR m cs c->SigR m' cs c:=fun ⟨f,g,h1,h2,h3⟩=>⟨f,g,h1,h2.ext hm,h3.ext hm⟩
abbrev SigSl (m:Mem) (s:Sl) (l:List Proc):Prop:=SlOf m 3 (SigR m) s l
theorem SigSl.ext {m m':Mem} (hm:Ext m m') {s:Sl} {l:List Proc} (h:SigSl m s l):SigSl m' s l:=h.mono hm (SigR.ext hm)
theorem SigSl.at' {m:Mem} {s:Sl} {l:List Proc} (h:SigSl m s l) {k:Nat} {x:Proc} (hk:l[k]?=some x) :
  ∃ a b,q03 m a x.params/\q03 m b x.lent/\gcell m s.blk (s.off+k*3)=some (Sl.v a)/\gcell m s.blk (s.off+k*3+1)=some (Sl.v b)/\gcell m s.blk (s.off+k*3+2)=some (vi x.result):=by
 obtain ⟨cs,⟨a,b,rfl,ha,hb⟩,hr⟩:=h.row k x hk
 exact ⟨a,b,ha,hb,hr 0 (.s a) rfl,hr 1 (.s b) rfl,hr 2 (.i x.result) rfl⟩
set_option maxHeartbeats 1000000 in
theorem qli {m:Mem} {d f:Sl} {ds:List Decl} {ps:List Proc} (hd:q0q m d ds) (hf:SigSl m f ps) :
  q0o Tryz.prog q8g [Sl.v d,Sl.v f] m (SigsOk ds ps/\∀ p ∈ ps,LentOk p.params p.lent):=by
 apply qge
 simp -zeta only [q09,q0a,rI,rS,rB,cI,cB,cS,dI,dB,dS,gk,rg]
 have hdl:=hd.len
 have hfl:=hf.len
 refine (qk8 hd).then fun b m1 hb hx1=>⟨_,rfl,fun h1=>?_,fun h1=>?_⟩
 ·exact retF (fun hp=>nb hb h1 hp.1.types) hx1
 have ht:=yb hb h1
 refine ⟨fun h2=>?_,fun h2=>?_⟩
 ·simp only [decide_eq_true_eq] at h2
  exact retF (fun hp=>by have:=hp.1.len; omega) hx1
 simp only [decide_eq_false_iff_not] at h2
 refine ⟨fun h3=>?_,fun h3=>?_⟩
 ·simp only [decide_eq_true_eq] at h3
  exact retF (fun hp=>by have:=hp.1.len; omega) hx1
 simp only [decide_eq_false_iff_not] at h3
 obtain ⟨p0,hp0⟩:=q00 (l:=ps) (k:=0) (by omega)
 obtain ⟨a0,l0,ha0,hl0,g0,g1,g2⟩:=(SigSl.ext hx1 hf).at' hp0
 have ha0l:=ha0.len
 refine ⟨by omega,by omega,a0,g0,fun h4=>?_,fun h4=>?_⟩
 ·simp only [decide_eq_true_eq] at h4
  exact retF (fun hp=>by have:=(hp.1.first p0 hp0).1; omega) hx1
 simp only [decide_eq_false_iff_not] at h4
 refine ⟨by omega,by omega,_,g2,fun h5=>?_,fun h5=>?_⟩
 ·simp only [bne_iff_ne] at h5
  exact retF (fun hp=>h5 (hp.1.first p0 hp0).2) hx1
 simp only [bne_eq_false_iff_eq] at h5
 refine forI (n:=ps.length) (by omega) (fun j m'=>Ext m m'/\∀ p ∈ ps.take j,(p.params.length<=3/\AllTy ds.length p.params/\IsTy ds.length p.result)/\LentOk p.params p.lent) ⟨hx1,by simp⟩ ?_
 rintro j m2 I μ hj ⟨hx,hn⟩ next
 refine ⟨fun h6=>?_,fun h6=>?_⟩
 ·simp only [decide_eq_true_eq] at h6
  obtain ⟨p,hp1⟩:=q00 (l:=ps) (k:=j) (by omega)
  obtain ⟨a,l,ha,hl,q0,q1,q2⟩:=(SigSl.ext hx hf).at' hp1
  have hal:=ha.len
  have hll:=hl.len
  have hlim:=hl.lim
  refine ⟨by omega,by omega,a,q0,l,q1,_,q2,?_⟩
  intro m3 m4
  have hx4:Ext m2 m4:=((Ext.refl m2).pushed _).scells (Nat.le_refl _) _ _
  have hl4:∀ b ∈ [m2.size],b < m4.size:=by simp [m4,m3,q02]
  clear_value m4
  refine ⟨fun h7=>?_,fun h7=>?_⟩
  ·simp only [decide_eq_true_eq] at h7
   exact retF (fun hp=>by have:=(hp.1.each p (q05 hp1)).1; omega) (hx.trans hx4)
  simp only [decide_eq_false_iff_not] at h7
  refine (qdl (ha.ext hx4) _).thenS (Ext.refl _) hl4 fun b m5 hb h8 h9=>⟨_,rfl,fun h10=>?_,fun h10=>?_⟩
  ·exact retF (fun hp=>nb hb h10 (hdl ▸ (hp.1.each p (q05 hp1)).2.1)) ((hx.trans hx4).trans h8)
  have hty:=yb hb h10
  refine (q6y _ _ _).thenS h9 hl4 fun b m6 hb h11 h12=>⟨_,rfl,fun h13=>?_,fun h13=>?_⟩
  ·exact retF (fun hp=>nb hb h13 (hdl ▸ (hp.1.each p (q05 hp1)).2.2)) ((hx.trans hx4).trans h12)
  have hres:=yb hb h13
  rw [hdl] at hty hres
  have hx6:Ext m m6:=(hx.trans hx4).trans h12
  have hx26:Ext m2 m6:=hx4.trans h12
  refine forI (n:=p.lent.length) (by omega) (fun k m'=>m'=m6/\∀ (j:Nat) (v:Int),j < k->p.lent[j]?=some v->(∃ t,0<=v/\p.params[v.toNat]?=some t/\t ≠ 0)/\(∀ u:Int,0 < j->p.lent[j - 1]?=some u->u < v)) ⟨rfl,by simp⟩ ?_
  rintro k m7 I2 μ2 hk ⟨rfl,hn7⟩ next7
  have bad:¬ LentOk p.params p.lent->∃ b':Bool,vb false=.bool b'/\(b'=true ↔ SigsOk ds ps/\∀ p ∈ ps,LentOk p.params p.lent)/\Ext m m7:=fun hno=>retF (fun hp=>hno (hp.2 p (q05 hp1))) hx6
  refine ⟨fun h14=>?_,fun h14=>?_⟩
  ·simp only [decide_eq_true_eq] at h14
   obtain ⟨x,hx1'⟩:=q00 (l:=p.lent) (k:=k) (by omega)
   refine ⟨by omega,by omega,x,by simpa using hx26.gcell (hl.at' hx1'),fun h15=>?_,fun h15=>?_⟩
   ·simp only [decide_eq_true_eq] at h15
    exact bad fun hp=>by obtain ⟨⟨t,h16,_⟩,_⟩:=hp k x hx1'; omega
   simp only [decide_eq_false_iff_not] at h15
   refine ⟨fun h16=>?_,fun h16=>?_⟩
   ·simp only [ge_iff_le,decide_eq_true_eq] at h16
    refine bad fun hp=>?_
    obtain ⟨⟨t,_,h17,_⟩,_⟩:=hp k x hx1'
    have:=q04 h17; omega
   simp only [ge_iff_le,decide_eq_false_iff_not] at h16
   obtain ⟨t,ht1⟩:=q00 (l:=p.params) (k:=x.toNat) (by omega)
   refine ⟨by omega,by omega,t,by simpa using hx26.gcell (ha.at' ht1),fun h17=>?_,fun h17=>?_⟩
   ·simp only [beq_iff_eq] at h17
    refine bad fun hp=>?_
    obtain ⟨⟨t',_,h18,h19⟩,_⟩:=hp k x hx1'
    rw [ht1] at h18; simp at h18; exact h19 (h18 ▸ h17)
   simp only [beq_eq_false_iff_ne] at h17
   refine ⟨fun h18=>?_,fun h18=>?_⟩
   ·simp only [decide_eq_true_eq] at h18
    have e2:w64 ((k:Int) - 1)=((k - 1:Nat):Int):=by rw [q07 (by omega) (by omega)]; omega
    obtain ⟨y,hy⟩:=q00 (l:=p.lent) (k:=k - 1) (by omega)
    rw [e2]
    refine ⟨by omega,by omega,y,by simpa using hx26.gcell (hl.at' hy),fun h19=>?_,fun h19=>?_⟩
    ·simp only [decide_eq_true_eq] at h19
     exact bad fun hp=>by have:=(hp k x hx1').2 y (by omega) hy; omega
    ·simp only [decide_eq_false_iff_not] at h19
     refine next7 (by omega) _ ⟨rfl,fun j' v hj' hv=>?_⟩
     by_cases e:j'=k
     ·subst e
      rw [hx1'] at hv; simp at hv; subst hv
      refine ⟨⟨t,by omega,ht1,h17⟩,fun u _ hu=>?_⟩
      rw [hy] at hu; simp at hu; subst hu; omega
     ·exact hn7 j' v (by omega) hv
   ·simp only [decide_eq_false_iff_not] at h18
    refine next7 (by omega) _ ⟨rfl,fun j' v hj' hv=>?_⟩
    by_cases e:j'=k
    ·subst e
     rw [hx1'] at hv; simp at hv; subst hv
     exact ⟨⟨t,by omega,ht1,h17⟩,fun u h0 _=>by omega⟩
    ·exact hn7 j' v (by omega) hv
  ·simp only [decide_eq_false_iff_not] at h14
   exact next (by omega) _ ⟨hx6,q0f hp1 hn ⟨⟨by omega,hty,hres⟩,fun j' v hv=>hn7 j' v (by have:=q04 hv; omega) hv⟩⟩
 ·simp only [decide_eq_false_iff_not] at h6
  have hall:=q0w (by omega) hn
  refine retT ⟨⟨ht,by omega,fun p hp=>(hall p hp).1,fun p hp=>?_⟩,fun p hp=>(hall p hp).2⟩ hx
  rw [hp0] at hp; simp at hp; subst hp
  exact ⟨by omega,h5⟩
end
section
theorem qlp {m:Mem} {d p:Sl} {im:Image} (h:ImageR m d p im) :
  q08 Tryz.prog q8t [.agg #[Sl.v d,Sl.v p]] m fun v m'=>∃ d' f b,v=.tuple #[.agg #[Sl.v d',Sl.v f],vb b]/\(b=true ↔ SigsOk im.decls im.procs/\∀ p ∈ im.procs,LentOk p.params p.lent) /\
   (b=true->d'=d/\SigSl m' f im.procs)/\Ext m m':=by
 apply qgh
 simp -zeta only [q09,q0a,rI,rS,rB,cI,cB,cS,dI,dB,dS,gk,rg]
 intro m1 m2
 have hpl:=h.procs.len
 have s1:m1.size=m.size+1:=by simp [m1]
 have s2:m2.size=m.size+2:=by simp [m2,m1]
 have hx2:Ext m m2:=((Ext.refl m).pushed _).pushed _
 refine ⟨fun h1=>?_,fun h1=>?_⟩
 ·simp only [decide_eq_true_eq] at h1
  intro m3
  exact ⟨_,_,_,rfl,⟨fun h=>by simp at h,fun h=>by have:=h.1.len; omega⟩,fun h=>by simp at h,hx2.scells (by omega) _ _⟩
 simp only [decide_eq_false_iff_not] at h1
 intro m4 m5
 have s5:m5.size=m.size+3:=by simp [m5,m4,q02,s2]
 have hx5:Ext m m5:=(hx2.pushed _).scells (by omega) _ _
 have hb5:Blk m5 m2.size q4x [.s d,.s .nil]:=Blk.scells (m:=m4) (o:=0) (r:=[.s d,.s .nil]) (Blk.push m2 _ _)
 clear_value m5
 refine forI (n:=im.procs.length) (by omega) (fun k m'=>Ext m m'/\m5.size<=m'.size/\∃ r css,Blk m' m2.size q4x [.s d,.s r]/\Own m m' q7i 3 r css.flatten/\RowsOf 3 (SigR m) css (im.procs.take k)/\(r ≠ .nil->m2.size < r.blk)/\r.len=k)
  ⟨hx5,Nat.le_refl _,.nil,[],hb5,Own.nil _ _ _ _,by simpa using RowsOf.nil 3 (SigR m),by simp,rfl⟩ ?_
 rintro k m6 I μ hk ⟨hx,hsz,r,css,hbx,hown,hrows,hr2,hrl⟩ next
 refine ⟨fun h2=>?_,fun h2=>?_⟩
 ·simp only [decide_eq_true_eq] at h2
  obtain ⟨q,hq⟩:=q00 (l:=im.procs) (k:=k) (by omega)
  obtain ⟨a,b,c,ha,hb,hc,g0,g1,g2,g3,g4⟩:=h.procs.at' hq
  refine ⟨by omega,by omega,a,by simpa using hx.gcell g0,b,by simpa using hx.gcell g1,_,by simpa using hx.gcell g2,_,by simpa using hx.gcell g3,c,by simpa using hx.gcell g4,?_⟩
  intro m7 m8
  have hx8:Ext m6 m8:=((Ext.refl m6).pushed _).scells (Nat.le_refl _) _ _
  have s8:m8.size=m6.size+1:=by simp [m8,m7,q02]
  clear_value m8
  refine ⟨r,(hbx.ext hx8).get 1,?_⟩
  intro m9
  have hx9:Ext m6 m9:=hx8.pushed _
  have s9:m9.size=m6.size+2:=by simp [m9,s8]
  have hrow:rowIs m9 m8.size 0 [.s a,.s b,.i q.result]:=(Blk.push m8 _ _).row
  clear_value m9
  refine Own.append (zs:=[.s .nil,.s .nil,.i 0]) (new:=[.s a,.s b,.i q.result]) (hown.ext hx9) (hx.trans hx9) rfl hrow (by simp [hrl]; omega) ?_
  intro r' m10 h7 h8 h9 h10 h11 h12
  have hr':r' ≠ .nil->m2.size < r'.blk:=by
   intro hne
   rcases h12 with e | ⟨hrn,e⟩ | e
   ·exact absurd e hne
   ·have:=hr2 hrn; omega
   ·omega
  have hfr:∀ b',b' < m9.size->b'<=m2.size \/ b'=m6.size/\(r=.nil \/ r.blk < m6.size)->m10[b']?=m9[b']?:=by
   intro b' hb' hc
   refine h11 b' hb' fun hne=>?_
   have:=hr2 hne
   rcases hc with hc | ⟨rfl,hc | hc⟩
   ·omega
   ·exact absurd hc hne
   ·omega
  have hrlt:r=.nil \/ r.blk < m6.size:=hown.lt
  have hbx10:Blk m10 m2.size q4x [.s d,.s r]:=(hbx.ext hx9).congr (hfr _ (by omega) (Or.inl (Nat.le_refl _)))
  refine ⟨fun b' hb'=>?_,hbx10.wrOk (by simp),?_⟩
  ·simp at hb'
   rcases hb' with rfl | rfl | rfl
   ·exact hfr _ (by omega) (Or.inr ⟨rfl,hrlt⟩)
   ·exact hfr _ (by omega) (Or.inl (by omega))
   ·exact hfr _ (by omega) (Or.inl (by omega))
  intro m11
  have s11:m11.size=m10.size:=by simp [m11,q02]
  have hb11:Blk m11 m2.size q4x [.s d,.s r']:=Blk.scells (m:=m10) (o:=1) (r:=[.s r']) hbx10
  have hne11:∀ b,b ≠ m2.size->m11[b]?=m10[b]?:=fun b hb=>q0n _ _ _ _ hb
  have hx11:Ext m m11:=h8.scells (by omega) _ _
  clear_value m11
  refine ⟨fun b' hb'=>?_,?_⟩
  ·simp at hb'
   rcases hb' with rfl | rfl | rfl <;> exact hne11 _ (by omega)
  refine next (by omega) _ ⟨hx11,by omega,r',css ++ [[.s a,.s b,.i q.result]],hb11,?_,?_,hr',by simp [h9,hrl]⟩
  ·rw [List.flatten_append]
   have h7':Own m m10 q7i 3 r' (css.flatten ++ [[.s a,.s b,.i q.result]].flatten):=by simpa using h7
   rcases h7'.lt with e | e
   ·subst e; exact ⟨h7'.len,Or.inl rfl⟩
   ·refine h7'.congr (hne11 _ fun e2=>?_)
    by_cases hn:r'=.nil
    ·subst hn
     have:=h9
     simp at this
    ·have:=hr' hn; omega
  ·rw [q06 hq]
   exact hrows.snoc rfl ⟨a,b,rfl,ha,hb⟩
 ·simp only [decide_eq_false_iff_not] at h2
  rw [q0b (by omega)] at hrows
  have hsig:SigSl m6 r im.procs:=(SlOf.ofOwn hown hrows (by omega) (by omega)).mono (Ext.refl _) (SigR.ext hx)
  refine ⟨d,hbx.get 0,r,hbx.get 1,r,hbx.get 1,?_⟩
  have hl:∀ b ∈ [m1.size,m.size],b < m6.size:=by simp; omega
  refine (qli (q0q.ext hx h.decls) hsig).thenS (Ext.refl _) hl fun b m7 hb h3 _=>⟨_,rfl,h3.keepG (hbx.get 0),h3.keepG (hbx.get 1),?_⟩
  intro m8
  have hne:∀ b,b ≠ m1.size->m8[b]?=m7[b]?:=fun b hb=>q0n _ _ _ _ hb
  have hx8:Ext m m8:=(hx.trans h3).scells (by omega) _ _
  refine ⟨d,r,b,rfl,hb,fun _=>⟨rfl,?_⟩,hx8⟩
  have hown7:=hown.ext h3
  have hown8:Own m m8 q7i 3 r css.flatten:=by
   by_cases hn:r=.nil
   ·subst hn; exact ⟨hown7.len,Or.inl rfl⟩
   ·exact hown7.congr (hne _ (by have:=hr2 hn; omega))
  exact (SlOf.ofOwn hown8 hrows (by omega) (by omega)).mono (Ext.refl _) (SigR.ext hx8)
def NumOk (im:Image) (i:Instr) (later:Int->Prop):Prop :=
 if i.op=0 then -999<=i.num/\i.num<=999
 else if i.op=6 then 0<=i.num/\i.num < (q17 im.decls).length
 else if i.op=9 \/ i.op=24 then 0<=i.num/\i.num < im.procs.length
 else if i.op=10 then 0<=i.num/\∃ q,im.procs[i.num.toNat]?=some q/\q.lent.length=0
 else if i.op=19 then 0<=i.num/\i.num < 3
 else if i.op=20 \/ i.op=22 then later i.num
 else if i.op=21 then 0 < (q1h im.decls i.num).length/\i.jumps.length=(q1h im.decls i.num).length
 else i.num=0
theorem qmd {m:Mem} {d f:Sl} {im:Image} (hd:q0q m d im.decls) (ht:TypesOk im.decls) (hf:SigSl m f im.procs) {i:Instr} {a j:Sl} (ha:q03 m a i.args) (hj:q03 m j i.jumps) (g:Nat) (fs cs:Array Value) (hg:GL.elem g=true) (later:Int->Prop)
  (hlater:∀ m',Ext m m'->q0o Tryz.prog g (fs.toList ++ [vi i.num] ++ cs.toList) m' (later i.num)) :
  q0o Tryz.prog q2e [.agg #[Sl.v d,Sl.v f],.agg #[vi i.op,vi i.dst,vi i.num,vi i.into,Sl.v a,Sl.v j],.func (.func g) fs cs] m (NumOk im i later):=by
 apply q92 d f i.op i.dst i.num i.into a j (.func g,fs,cs)
 simp -zeta only [q09,q0a,rI,rS,rB,cI,cB,cS,dI,dB,dS,gk,rg]
 intro m1 m2
 have hx2:Ext m m2:=((Ext.refl m).pushed _).pushed _
 have hl:∀ b ∈ [m1.size,m.size],b < m2.size:=by simp [m2,m1]; omega
 have hfl:=hf.len
 have hjl:=hj.len
 have hB:Blk m2 m1.size q2d [.i i.op,.i i.dst,.i i.num,.i i.into,.s a,.s j]:=Blk.push _ _ _
 clear_value m2
 refine ⟨fun e0=>?_,fun e0=>?_⟩
 ·simp only [beq_iff_eq] at e0
  rw [show NumOk im i later ↔ -999<=i.num/\i.num<=999 by rw [NumOk,if_pos e0]]
  refine ⟨fun h=>retB ?_ hx2,fun h=>retF ?_ hx2⟩ <;> simp at h
  ·simp; omega
  ·omega
 simp only [beq_eq_false_iff_ne] at e0
 refine ⟨fun e1=>?_,fun e1=>?_⟩
 ·simp only [beq_iff_eq] at e1
  rw [show NumOk im i later ↔ 0<=i.num/\i.num < (q17 im.decls).length by rw [NumOk,if_neg e0,if_pos e1]]
  refine ⟨fun h=>?_,fun h=>retF ?_ hx2⟩ <;> simp at h
  ·refine (q8s (q0q.ext hx2 hd) ht.len (qpb ht)).thenS (Ext.refl _) hl fun m3 h3 _=>⟨_,rfl,h3.keepG (hB.get 2),retB ?_ (hx2.trans h3)⟩
   simp; omega
  ·omega
 simp only [beq_eq_false_iff_ne] at e1
 refine ⟨fun e2=>?_,fun e2=>?_⟩
 ·simp only [Bool.or_eq_true,beq_iff_eq] at e2
  rw [show NumOk im i later ↔ 0<=i.num/\i.num < im.procs.length by rw [NumOk,if_neg e0,if_neg e1,if_pos e2]]
  refine ⟨fun h=>retB ?_ hx2,fun h=>retF ?_ hx2⟩ <;> simp at h
  ·simp; omega
  ·omega
 simp only [Bool.or_eq_false_iff,beq_eq_false_iff_ne] at e2
 replace e2:¬ (i.op=9 \/ i.op=24):=by omega
 refine ⟨fun e3=>?_,fun e3=>?_⟩
 ·simp only [beq_iff_eq] at e3
  rw [show NumOk im i later ↔ 0<=i.num/\∃ q,im.procs[i.num.toNat]?=some q/\q.lent.length=0 by rw [NumOk,if_neg e0,if_neg e1,if_neg e2,if_pos e3]]
  refine ⟨fun h=>⟨fun h1=>?_,fun h1=>?_⟩,fun h=>retF ?_ hx2⟩ <;> simp at h
  ·simp at h1
   obtain ⟨q,hq⟩:=q00 (l:=im.procs) (k:=i.num.toNat) (by omega)
   obtain ⟨a',l',ha',hl',g0,g1,g2⟩:=(SigSl.ext hx2 hf).at' hq
   have:=hl'.len
   refine ⟨by omega,by omega,l',g1,retB ?_ hx2⟩
   simp only [beq_iff_eq]
   refine ⟨fun h2=>⟨h,q,hq,by omega⟩,fun ⟨_,q',h3,h4⟩=>?_⟩
   rw [hq] at h3; simp at h3; subst h3; omega
  ·simp at h1
   exact retF (fun ⟨_,q,h3,_⟩=>by have:=q04 h3; omega) hx2
  ·omega
 simp only [beq_eq_false_iff_ne] at e3
 refine ⟨fun e4=>?_,fun e4=>?_⟩
 ·simp only [beq_iff_eq] at e4
  rw [show NumOk im i later ↔ 0<=i.num/\i.num < 3 by rw [NumOk,if_neg e0,if_neg e1,if_neg e2,if_neg e3,if_pos e4]]
  refine ⟨fun h=>retB ?_ hx2,fun h=>retF ?_ hx2⟩ <;> simp at h
  ·simp; omega
  ·omega
 simp only [beq_eq_false_iff_ne] at e4
 refine ⟨fun e5=>?_,fun e5=>?_⟩
 ·simp only [Bool.or_eq_true,beq_iff_eq] at e5
  rw [show NumOk im i later ↔ later i.num by rw [NumOk,if_neg e0,if_neg e1,if_neg e2,if_neg e3,if_neg e4,if_pos e5]]
  exact ⟨g,rfl,hg,(hlater m2 hx2).thenS (Ext.refl _) hl fun b m3 hb h3 _=>⟨_,rfl,retB hb (hx2.trans h3)⟩⟩
 simp only [Bool.or_eq_false_iff,beq_eq_false_iff_ne] at e5
 replace e5:¬ (i.op=20 \/ i.op=22):=by omega
 refine ⟨fun e6=>?_,fun e6=>?_⟩
 ·simp only [beq_iff_eq] at e6
  rw [show NumOk im i later ↔ 0 < (q1h im.decls i.num).length/\i.jumps.length=(q1h im.decls i.num).length by rw [NumOk,if_neg e0,if_neg e1,if_neg e2,if_neg e3,if_neg e4,if_neg e5,if_pos e6]]
  refine (qao (q0q.ext hx2 hd) ht _).thenS (Ext.refl _) hl ?_
  rintro _ m3 ⟨s,rfl,hs,h3⟩
  have:=hs.len
  refine ⟨h3,_,rfl,fun h=>retB ?_ (hx2.trans h3),fun h=>retF ?_ (hx2.trans h3)⟩ <;> simp at h
  ·simp only [beq_iff_eq]; omega
  ·omega
 ·simp only [beq_eq_false_iff_ne] at e6
  rw [show NumOk im i later ↔ i.num=0 by rw [NumOk,if_neg e0,if_neg e1,if_neg e2,if_neg e3,if_neg e4,if_neg e5,if_neg e6]]
  exact retB (by simp) hx2
def q1p (im:Image) (i:Instr) (lo hi:Int):Prop :=
 if i.op=0 \/ i.op=22 then lo=0/\hi=0
 else if i.op=1 \/ i.op=2 \/ i.op=3 \/ i.op=4 \/ i.op=11 then lo=2/\hi=2
 else if i.op=6 then lo=(q2m im.decls i.num).length/\hi=(q2m im.decls i.num).length
 else if i.op=9 \/ i.op=24 then ∃ q,im.procs[i.num.toNat]?=some q/\lo=q.params.length/\hi=q.params.length
 else if i.op=10 then ∃ q,im.procs[i.num.toNat]?=some q/\lo=(q.params.length:Int) - 1/\hi=(q.params.length:Int) - 1
 else if i.op=16 \/ i.op=17 then lo=1/\hi=4
 else lo=1/\hi=1
theorem qp5 {m:Mem} {d f:Sl} {im:Image} (hd:q0q m d im.decls) (ht:TypesOk im.decls) (hf:SigSl m f im.procs) {i:Instr} {a j:Sl} {later:Int->Prop} (hn:NumOk im i later) :
  q08 Tryz.prog q2t [.agg #[Sl.v d,Sl.v f],.agg #[vi i.op,vi i.dst,vi i.num,vi i.into,Sl.v a,Sl.v j]] m fun v m'=>∃ lo hi:Int,v=.tuple #[vi lo,vi hi]/\q1p im i lo hi/\Ext m m':=by
 apply qa4
 simp -zeta only [q09,q0a,rI,rS,rB,cI,cB,cS,dI,dB,dS,gk,rg]
 intro m1 m2
 have hx2:Ext m m2:=((Ext.refl m).pushed _).pushed _
 have hl:∀ b ∈ [m1.size,m.size],b < m2.size:=by simp [m2,m1]; omega
 have hfl:=hf.len
 clear_value m2
 refine ⟨fun e0=>?_,fun e0=>?_⟩
 ·simp only [Bool.or_eq_true,beq_iff_eq] at e0
  exact ⟨_,_,rfl,by rw [q1p,if_pos e0]; exact ⟨rfl,rfl⟩,hx2⟩
 simp only [Bool.or_eq_false_iff,beq_eq_false_iff_ne] at e0
 have e0':¬ (i.op=0 \/ i.op=22):=by omega
 refine ⟨fun e1=>?_,fun e1=>?_⟩
 ·simp only [Bool.or_eq_true,beq_iff_eq] at e1
  exact ⟨_,_,rfl,by rw [q1p,if_neg e0',if_pos e1]; exact ⟨rfl,rfl⟩,hx2⟩
 simp only [Bool.or_eq_false_iff,beq_eq_false_iff_ne] at e1
 have e1':¬ (i.op=1 \/ i.op=2 \/ i.op=3 \/ i.op=4 \/ i.op=11):=by omega
 refine ⟨fun e2=>?_,fun e2=>?_⟩
 ·simp only [beq_iff_eq] at e2
  rw [NumOk,if_neg e0.1,if_pos e2] at hn
  have h12:=fc_12 ht im.decls.length
  rw [fc_all _ _ (Nat.le_refl _)] at h12
  refine (qn9 (q0q.ext hx2 hd) ht _ (by omega)).thenS (Ext.refl _) hl ?_
  rintro _ m3 ⟨s,rfl,hs,h3⟩
  have:=hs.len
  exact ⟨h3,_,rfl,_,_,rfl,by rw [q1p,if_neg e0',if_neg e1',if_pos e2]; omega,hx2.trans h3⟩
 simp only [beq_eq_false_iff_ne] at e2
 refine ⟨fun e3=>?_,fun e3=>?_⟩
 ·simp only [Bool.or_eq_true,beq_iff_eq] at e3
  rw [NumOk,if_neg e0.1,if_neg e2,if_pos e3] at hn
  obtain ⟨q,hq⟩:=q00 (l:=im.procs) (k:=i.num.toNat) (by omega)
  obtain ⟨a',l',ha',hl',g0,g1,g2⟩:=(SigSl.ext hx2 hf).at' hq
  have:=ha'.len
  exact ⟨by omega,by omega,a',g0,_,_,rfl,by rw [q1p,if_neg e0',if_neg e1',if_neg e2,if_pos e3]; exact ⟨q,hq,by omega,by omega⟩,hx2⟩
 simp only [Bool.or_eq_false_iff,beq_eq_false_iff_ne] at e3
 have e3':¬ (i.op=9 \/ i.op=24):=by omega
 refine ⟨fun e4=>?_,fun e4=>?_⟩
 ·simp only [beq_iff_eq] at e4
  rw [NumOk,if_neg e0.1,if_neg e2,if_neg e3',if_pos e4] at hn
  obtain ⟨h0,q,hq,_⟩:=hn
  obtain ⟨a',l',ha',hl',g0,g1,g2⟩:=(SigSl.ext hx2 hf).at' hq
  have:=ha'.len
  have:=ha'.lim
  have:=q04 hq
  have e:w64 ((a'.len:Int) - 1)=(q.params.length:Int) - 1:=by rw [q07 (by omega) (by omega)]; omega
  exact ⟨by omega,by omega,a',g0,_,_,rfl,by rw [q1p,if_neg e0',if_neg e1',if_neg e2,if_neg e3',if_pos e4]; exact ⟨q,hq,e,e⟩,hx2⟩
 simp only [beq_eq_false_iff_ne] at e4
 refine ⟨fun e5=>?_,fun e5=>?_⟩
 ·simp only [Bool.or_eq_true,beq_iff_eq] at e5
  exact ⟨_,_,rfl,by rw [q1p,if_neg e0',if_neg e1',if_neg e2,if_neg e3',if_neg e4,if_pos e5]; exact ⟨rfl,rfl⟩,hx2⟩
 ·simp only [Bool.or_eq_false_iff,beq_eq_false_iff_ne] at e5
  have e5':¬ (i.op=16 \/ i.op=17):=by omega
  exact ⟨_,_,rfl,by rw [q1p,if_neg e0',if_neg e1',if_neg e2,if_neg e3',if_neg e4,if_neg e5']; exact ⟨rfl,rfl⟩,hx2⟩
end
section
theorem qe3 {m:Mem} {x k:Int} {b0 b1:Nat} {c:Sl} (h0:gcell m b0 0=some (vi k)) (h1:gcell m b1 4=some (Sl.v c)) :
  q0o Tryz.prog q0v [vi x,vp b0 0,vp b1 0] m (k+1<=x/\x<=(c.len:Int) - 1):=by
 apply q7j x (b0,0) (b1,0)
 refine ⟨k,h0,fun h=>⟨c,h1,retB ?_ (Ext.refl _)⟩,fun h=>retF ?_ (Ext.refl _)⟩ <;> simp at h
 ·simp; omega
 ·omega
theorem qob {m:Mem} {x k:Int} {b0 b1 b2:Nat} {c:Sl} (h0:gcell m b0 0=some (vi k)) (h1:gcell m b1 4=some (Sl.v c))
  (h2:gcell m b2 0=some (.func (.func q0v) #[] #[vp b0 0,vp b1 0])) :
  q0o Tryz.prog q1j [vi x,vp b2 0] m (¬ (k+1<=x/\x<=(c.len:Int) - 1)):=by
 apply q7c x (b2,0)
 refine ⟨(.func q0v,#[],#[vp b0 0,vp b1 0]),h2,_,rfl,rfl,?_⟩
 refine (qe3 h0 h1).then fun b m1 hb hx=>⟨_,rfl,retB ?_ hx⟩
 rw [← hb]; simp
theorem qly {im:Image} {p:Proc} {k:Nat} {i:Instr} (hr:p.regs<=2000) (hp4:im.procs.length<=4) (h3:∀ q ∈ im.procs,q.params.length<=3) :
  InstrOk im p k i ↔ ((0<=i.op/\i.op<=24/\i.op ≠ 7/\i.op ≠ 8/\i.op ≠ 12/\i.op ≠ 13)/\(0<=i.dst/\i.dst < p.regs/\(i.dst=0 \/ Sets i.op)/\0<=i.into/\i.into<=p.regs/\(i.into=0 \/ i.op=6)) /\
   (∀ a ∈ i.args,0<=a/\a < p.regs)/\(i.jumps.length=0 \/ i.op=21)/\(∀ t ∈ i.jumps,(k:Int)+1<=t/\t<=(p.code.length:Int) - 1) /\
   NumOk im i (fun t=>(k:Int)+1<=t/\t<=(p.code.length:Int) - 1)/\∀ lo hi,q1p im i lo hi->lo<=i.args.length/\(i.args.length:Int)<=hi):=by
 have hpos:(0<=i.dst/\i.dst < p.regs)->0 < p.regs:=fun h=>by omega
 constructor
 ·intro h
  have hop:=h.op
  have hd:=h.dst
  have hargs:∀ a ∈ i.args,0<=a/\a < p.regs:=fun a ha=>by have:=h.args a ha; omega
  have hj0:i.op ≠ 21->∀ t ∈ i.jumps,(k:Int)+1<=t/\t<=(p.code.length:Int) - 1:=fun hne t ht=>by
   rcases h.jumps with h5 | h5
   ·exact absurd h5 hne
   ·rw [List.length_eq_zero_iff.1 h5] at ht; cases ht
  have hjj:i.jumps.length=0 \/ i.op=21:=h.jumps.symm
  have hd':0<=i.dst/\i.dst < p.regs:=by omega
  have fin:∀ (_:0<=i.op/\i.op<=24/\i.op ≠ 7/\i.op ≠ 8/\i.op ≠ 12/\i.op ≠ 13) (_:0<=i.into/\i.into<=p.regs) (_:∀ t ∈ i.jumps,(k:Int)+1<=t/\t<=(p.code.length:Int) - 1)
   (_:NumOk im i (fun t=>(k:Int)+1<=t/\t<=(p.code.length:Int) - 1)) (_:∀ lo hi,q1p im i lo hi->lo<=i.args.length/\(i.args.length:Int)<=hi),_ :=
   fun h1 h2 h3 h4 h5=>(⟨h1,⟨hd'.1,hd'.2,h.dst0,h2.1,h2.2,h.into⟩,hargs,hjj,h3,h4,h5⟩:(0<=i.op/\i.op<=24/\i.op ≠ 7/\i.op ≠ 8/\i.op ≠ 12/\i.op ≠ 13)/\(0<=i.dst/\i.dst < p.regs/\(i.dst=0 \/ Sets i.op)/\0<=i.into/\i.into<=p.regs/\(i.into=0 \/ i.op=6)) /\
   (∀ a ∈ i.args,0<=a/\a < p.regs)/\(i.jumps.length=0 \/ i.op=21)/\(∀ t ∈ i.jumps,(k:Int)+1<=t/\t<=(p.code.length:Int) - 1) /\
   NumOk im i (fun t=>(k:Int)+1<=t/\t<=(p.code.length:Int) - 1)/\∀ lo hi,q1p im i lo hi->lo<=i.args.length/\(i.args.length:Int)<=hi)
  have hin0:i.op ≠ 6->0<=i.into/\i.into<=p.regs:=fun hne=>by rcases h.into with h5 | h5 <;> omega
  unfold OpOk at hop
  by_cases e0:i.op=0
  ·rw [if_pos e0] at hop
   refine fin (by omega) (hin0 (by omega)) (hj0 (by omega)) (by rw [NumOk,if_pos e0]; exact hop.2) (fun lo hi ha=>?_)
   rw [q1p,if_pos (Or.inl e0)] at ha; omega
  rw [if_neg e0] at hop
  by_cases e1:i.op=1 \/ i.op=2 \/ i.op=3 \/ i.op=4 \/ i.op=11
  ·rw [if_pos e1] at hop
   refine fin (by omega) (hin0 (by omega)) (hj0 (by omega)) ?_ (fun lo hi ha=>?_)
   ·rw [NumOk,if_neg e0,if_neg (by omega),if_neg (by omega),if_neg (by omega),if_neg (by omega),if_neg (by omega),if_neg (by omega)]; exact hop.2
   ·rw [q1p,if_neg (by omega),if_pos e1] at ha; omega
  rw [if_neg e1] at hop
  by_cases e2:i.op=5 \/ i.op=14 \/ i.op=15 \/ i.op=18 \/ i.op=23
  ·rw [if_pos e2] at hop
   refine fin (by omega) (hin0 (by omega)) (hj0 (by omega)) ?_ (fun lo hi ha=>?_)
   ·rw [NumOk,if_neg e0,if_neg (by omega),if_neg (by omega),if_neg (by omega),if_neg (by omega),if_neg (by omega),if_neg (by omega)]; exact hop.2
   ·rw [q1p,if_neg (by omega),if_neg e1,if_neg (by omega),if_neg (by omega),if_neg (by omega),if_neg (by omega)] at ha; omega
  rw [if_neg e2] at hop
  by_cases e3:i.op=6
  ·rw [if_pos e3] at hop
   refine fin (by omega) hop.2.2 (hj0 (by omega)) ?_ (fun lo hi ha=>?_)
   ·rw [NumOk,if_neg e0,if_pos e3]; exact hop.1
   ·rw [q1p,if_neg (by omega),if_neg e1,if_pos e3] at ha; omega
  rw [if_neg e3] at hop
  by_cases e4:i.op=9 \/ i.op=24
  ·rw [if_pos e4] at hop
   obtain ⟨q,h5,h6,h7⟩:=hop
   have:=q04 h6
   refine fin (by omega) (hin0 (by omega)) (hj0 (by omega)) ?_ (fun lo hi ha=>?_)
   ·rw [NumOk,if_neg e0,if_neg e3,if_pos e4]; omega
   ·rw [q1p,if_neg (by omega),if_neg e1,if_neg e3,if_pos e4] at ha
    obtain ⟨q',h8,h9,h10⟩:=ha
    rw [h6] at h8; simp at h8; subst h8; omega
  rw [if_neg e4] at hop
  by_cases e5:i.op=10
  ·rw [if_pos e5] at hop
   obtain ⟨⟨q,h5,h6,h7⟩,h8⟩:=hop
   have:=q04 h6
   refine fin (by omega) (hin0 (by omega)) (hj0 (by omega)) ?_ (fun lo hi ha=>?_)
   ·rw [NumOk,if_neg e0,if_neg e3,if_neg e4,if_pos e5]; exact ⟨h5,q,h6,h8 q h6⟩
   ·rw [q1p,if_neg (by omega),if_neg e1,if_neg e3,if_neg e4,if_pos e5] at ha
    obtain ⟨q',h8,h9,h10⟩:=ha
    rw [h6] at h8; simp at h8; subst h8; omega
  rw [if_neg e5] at hop
  by_cases e6:i.op=16 \/ i.op=17
  ·rw [if_pos e6] at hop
   refine fin (by omega) (hin0 (by omega)) (hj0 (by omega)) ?_ (fun lo hi ha=>?_)
   ·rw [NumOk,if_neg e0,if_neg e3,if_neg e4,if_neg e5,if_neg (by omega),if_neg (by omega),if_neg (by omega)]; exact hop.2
   ·rw [q1p,if_neg (by omega),if_neg e1,if_neg e3,if_neg e4,if_neg e5,if_pos e6] at ha; omega
  rw [if_neg e6] at hop
  by_cases e7:i.op=19
  ·rw [if_pos e7] at hop
   refine fin (by omega) (hin0 (by omega)) (hj0 (by omega)) ?_ (fun lo hi ha=>?_)
   ·rw [NumOk,if_neg e0,if_neg e3,if_neg e4,if_neg e5,if_pos e7]; omega
   ·rw [q1p,if_neg (by omega),if_neg e1,if_neg e3,if_neg e4,if_neg e5,if_neg e6] at ha; omega
  rw [if_neg e7] at hop
  by_cases e8:i.op=20
  ·rw [if_pos e8] at hop
   refine fin (by omega) (hin0 (by omega)) (hj0 (by omega)) ?_ (fun lo hi ha=>?_)
   ·rw [NumOk,if_neg e0,if_neg e3,if_neg e4,if_neg e5,if_neg e7,if_pos (Or.inl e8)]; exact hop.2
   ·rw [q1p,if_neg (by omega),if_neg e1,if_neg e3,if_neg e4,if_neg e5,if_neg e6] at ha; omega
  rw [if_neg e8] at hop
  by_cases e9:i.op=22
  ·rw [if_pos e9] at hop
   refine fin (by omega) (hin0 (by omega)) (hj0 (by omega)) ?_ (fun lo hi ha=>?_)
   ·rw [NumOk,if_neg e0,if_neg e3,if_neg e4,if_neg e5,if_neg e7,if_pos (Or.inr e9)]; exact hop.2
   ·rw [q1p,if_pos (Or.inr e9)] at ha; omega
  rw [if_neg e9] at hop
  by_cases e10:i.op=21
  ·rw [if_pos e10] at hop
   refine fin (by omega) (hin0 (by omega)) hop.2.2.2 ?_ (fun lo hi ha=>?_)
   ·rw [NumOk,if_neg e0,if_neg e3,if_neg e4,if_neg e5,if_neg e7,if_neg (by omega),if_pos e10]
    have:=hop.2.2.1
    exact ⟨hop.2.1,by omega⟩
   ·rw [q1p,if_neg (by omega),if_neg e1,if_neg e3,if_neg e4,if_neg e5,if_neg e6] at ha; omega
  rw [if_neg e10] at hop
  exact hop.elim
 ·rintro ⟨h1,h2,hargs,hjj,hjs,hnum,hA⟩
  refine ⟨fun a ha=>by have:=hargs a ha; omega,by omega,h2.2.2.1,h2.2.2.2.2.2,hjj.symm,?_⟩
  unfold OpOk
  by_cases e0:i.op=0
  ·rw [if_pos e0]
   rw [NumOk,if_pos e0] at hnum
   have:=hA 0 0 (by rw [q1p,if_pos (Or.inl e0)]; exact ⟨rfl,rfl⟩)
   exact ⟨by omega,hnum⟩
  rw [if_neg e0]
  by_cases e1:i.op=1 \/ i.op=2 \/ i.op=3 \/ i.op=4 \/ i.op=11
  ·rw [if_pos e1]
   rw [NumOk,if_neg e0,if_neg (by omega),if_neg (by omega),if_neg (by omega),if_neg (by omega),if_neg (by omega),if_neg (by omega)] at hnum
   have:=hA 2 2 (by rw [q1p,if_neg (by omega),if_pos e1]; exact ⟨rfl,rfl⟩)
   exact ⟨by omega,hnum⟩
  rw [if_neg e1]
  by_cases e2:i.op=5 \/ i.op=14 \/ i.op=15 \/ i.op=18 \/ i.op=23
  ·rw [if_pos e2]
   rw [NumOk,if_neg e0,if_neg (by omega),if_neg (by omega),if_neg (by omega),if_neg (by omega),if_neg (by omega),if_neg (by omega)] at hnum
   have:=hA 1 1 (by rw [q1p,if_neg (by omega),if_neg e1,if_neg (by omega),if_neg (by omega),if_neg (by omega),if_neg (by omega)]; exact ⟨rfl,rfl⟩)
   exact ⟨by omega,hnum⟩
  rw [if_neg e2]
  by_cases e3:i.op=6
  ·rw [if_pos e3]
   rw [NumOk,if_neg e0,if_pos e3] at hnum
   have:=hA _ _ (by rw [q1p,if_neg (by omega),if_neg e1,if_pos e3]; exact ⟨rfl,rfl⟩)
   exact ⟨hnum,by omega,by omega⟩
  rw [if_neg e3]
  by_cases e4:i.op=9 \/ i.op=24
  ·rw [if_pos e4]
   rw [NumOk,if_neg e0,if_neg e3,if_pos e4] at hnum
   obtain ⟨q,hq⟩:=q00 (l:=im.procs) (k:=i.num.toNat) (by omega)
   have:=hA _ _ (by rw [q1p,if_neg (by omega),if_neg e1,if_neg e3,if_pos e4]; exact ⟨q,hq,rfl,rfl⟩)
   exact ⟨q,hnum.1,hq,by omega⟩
  rw [if_neg e4]
  by_cases e5:i.op=10
  ·rw [if_pos e5]
   rw [NumOk,if_neg e0,if_neg e3,if_neg e4,if_pos e5] at hnum
   obtain ⟨h5,q,hq,h6⟩:=hnum
   have:=hA _ _ (by rw [q1p,if_neg (by omega),if_neg e1,if_neg e3,if_neg e4,if_pos e5]; exact ⟨q,hq,rfl,rfl⟩)
   refine ⟨⟨q,h5,hq,by omega⟩,fun q' hq'=>?_⟩
   rw [hq] at hq'; simp at hq'; subst hq'; exact h6
  rw [if_neg e5]
  by_cases e6:i.op=16 \/ i.op=17
  ·rw [if_pos e6]
   rw [NumOk,if_neg e0,if_neg e3,if_neg e4,if_neg e5,if_neg (by omega),if_neg (by omega),if_neg (by omega)] at hnum
   have:=hA 1 4 (by rw [q1p,if_neg (by omega),if_neg e1,if_neg e3,if_neg e4,if_neg e5,if_pos e6]; exact ⟨rfl,rfl⟩)
   exact ⟨by omega,hnum⟩
  have hA1:i.op ≠ 22->∀ (e0:¬ i.op=0) (e1:¬ (i.op=1 \/ i.op=2 \/ i.op=3 \/ i.op=4 \/ i.op=11)) (e3:¬ i.op=6) (e4:¬ (i.op=9 \/ i.op=24)) (e5:¬ i.op=10) (e6:¬ (i.op=16 \/ i.op=17)),i.args.length=1:=fun h22 e0 e1 e3 e4 e5 e6=>by
   have:=hA 1 1 (by rw [q1p,if_neg (by omega),if_neg e1,if_neg e3,if_neg e4,if_neg e5,if_neg e6]; exact ⟨rfl,rfl⟩)
   omega
  rw [if_neg e6]
  by_cases e7:i.op=19
  ·rw [if_pos e7]
   rw [NumOk,if_neg e0,if_neg e3,if_neg e4,if_neg e5,if_pos e7] at hnum
   exact ⟨hA1 (by omega) e0 e1 e3 e4 e5 e6,by omega,by omega⟩
  rw [if_neg e7]
  by_cases e8:i.op=20
  ·rw [if_pos e8]
   rw [NumOk,if_neg e0,if_neg e3,if_neg e4,if_neg e5,if_neg e7,if_pos (Or.inl e8)] at hnum
   exact ⟨hA1 (by omega) e0 e1 e3 e4 e5 e6,hnum⟩
  rw [if_neg e8]
  by_cases e9:i.op=22
  ·rw [if_pos e9]
   rw [NumOk,if_neg e0,if_neg e3,if_neg e4,if_neg e5,if_neg e7,if_pos (Or.inr e9)] at hnum
   have:=hA 0 0 (by rw [q1p,if_pos (Or.inr e9)]; exact ⟨rfl,rfl⟩)
   exact ⟨by omega,hnum⟩
  rw [if_neg e9]
  by_cases e10:i.op=21
  ·rw [if_pos e10]
   rw [NumOk,if_neg e0,if_neg e3,if_neg e4,if_neg e5,if_neg e7,if_neg (by omega),if_pos e10] at hnum
   exact ⟨hA1 (by omega) e0 e1 e3 e4 e5 e6,hnum.1,by omega,hjs⟩
  rw [if_neg e10]
  omega
end
section
theorem qij {m:Mem} {d f a l c:Sl} {im:Image} (hd:q0q m d im.decls) (ht:TypesOk im.decls) (hf:SigSl m f im.procs) (hp4:im.procs.length<=4) (h3:∀ q ∈ im.procs,q.params.length<=3)
  {q:Proc} (hc:q1c m c q.code) (hr:q.regs<=2000) {k:Nat} {i:Instr} {xa xj:Sl} (ha:q03 m xa i.args) (hj:q03 m xj i.jumps) :
  q0o Tryz.prog q3v [.agg #[Sl.v d,Sl.v f],.agg #[Sl.v a,Sl.v l,vi q.result,vi q.regs,Sl.v c],vi k,.agg #[vi i.op,vi i.dst,vi i.num,vi i.into,Sl.v xa,Sl.v xj]] m (InstrOk im q k i):=by
 apply q8a
 simp -zeta only [q09,q0a,rI,rS,rB,cI,cB,cS,dI,dB,dS,gk,rg]
 intro m1 m2 m3 m4
 have s1:m1.size=m.size+1:=by simp [m1]
 have s2:m2.size=m.size+2:=by simp [m2,s1]
 have s3:m3.size=m.size+3:=by simp [m3,s2]
 have s4:m4.size=m.size+4:=by simp [m4,s3]
 have hx4:Ext m m4:=((((Ext.refl m).pushed _).pushed _).pushed _).pushed _
 have hbk:Blk m4 m2.size ty_int [.i k]:=(Blk.push m2 _ _).ext (Ext.push _ _)
 have hbp:Blk m4 m1.size q9o [.s a,.s l,.i q.result,.i q.regs,.s c]:=(Blk.push m1 _ _).ext ((Ext.push m2 _).pushed _)
 have hiff:=qly (im:=im) (p:=q) (k:=k) (i:=i) hr hp4 h3
 have hcl:=hc.len
 have hal:=ha.len
 have hjl:=hj.len
 clear_value m4
 clear_value m3
 clear_value m2
 clear_value m1
 refine ⟨fun h=>retF (fun ho=>?_) hx4,fun c0=>⟨fun h=>retF (fun ho=>?_) hx4,fun c1=>⟨fun h=>retF (fun ho=>?_) hx4,fun c2=>⟨fun h=>retF (fun ho=>?_) hx4,fun c3=>⟨fun h=>retF (fun ho=>?_) hx4,fun c4=>⟨fun h=>retF (fun ho=>?_) hx4,fun c5=>?_⟩⟩⟩⟩⟩⟩
 any_goals (have:=(hiff.1 ho).1; simp at h; omega)
 simp at c0 c1 c2 c3 c4 c5
 have f1:0<=i.op/\i.op<=24/\i.op ≠ 7/\i.op ≠ 8/\i.op ≠ 12/\i.op ≠ 13:=by omega
 refine ⟨fun m5=>Ext m4 m5/\(0<=i.dst/\i.dst < q.regs/\(i.dst=0 \/ Sets i.op)/\0<=i.into/\i.into<=q.regs/\(i.into=0 \/ i.op=6)),?_,?_⟩
 ·refine ⟨fun h=>retF (fun ho=>?_) hx4,fun c6=>⟨fun h=>retF (fun ho=>?_) hx4,fun c7=>?_⟩⟩
  ·have:=(hiff.1 ho).2.1; simp at h; omega
  ·have:=(hiff.1 ho).2.1; simp at h; omega
  simp at c6 c7
  have tail:∀ m5,Ext m4 m5->(i.dst=0 \/ Sets i.op)->((decide (i.into < (0:Int)))=true->∃ b':Bool,Value.bool false=.bool b'/\(b'=true ↔ InstrOk im q k i)/\Ext m m5)/\((decide (i.into < (0:Int)))=false ->
    ((decide (i.into > q.regs))=true->∃ b':Bool,Value.bool false=.bool b'/\(b'=true ↔ InstrOk im q k i)/\Ext m m5)/\((decide (i.into > q.regs))=false ->
    ((i.into != (0:Int))=true->((i.op != (6:Int))=true->∃ b':Bool,Value.bool false=.bool b'/\(b'=true ↔ InstrOk im q k i)/\Ext m m5)/\((i.op != (6:Int))=false->Ext m4 m5/\(0<=i.dst/\i.dst < q.regs/\(i.dst=0 \/ Sets i.op)/\0<=i.into/\i.into<=q.regs/\(i.into=0 \/ i.op=6)))) /\
    ((i.into != (0:Int))=false->Ext m4 m5/\(0<=i.dst/\i.dst < q.regs/\(i.dst=0 \/ Sets i.op)/\0<=i.into/\i.into<=q.regs/\(i.into=0 \/ i.op=6))))):=by
   intro m5 h5 hs
   have hx5:=hx4.trans h5
   refine ⟨fun h=>retF (fun ho=>?_) hx5,fun c8=>⟨fun h=>retF (fun ho=>?_) hx5,fun c9=>⟨fun c10=>⟨fun h=>retF (fun ho=>?_) hx5,fun c11=>⟨h5,?_⟩⟩,fun c10=>⟨h5,?_⟩⟩⟩⟩
   ·have:=(hiff.1 ho).2.1; simp at h; omega
   ·have:=(hiff.1 ho).2.1; simp at h; omega
   ·have:=(hiff.1 ho).2.1.2.2.2.2.2; simp at h c10; omega
   ·simp at c8 c9 c11; exact ⟨c6,c7,hs,c8,c9,Or.inr c11⟩
   ·simp at c8 c9 c10; exact ⟨c6,c7,hs,c8,c9,Or.inl c10⟩
  refine ⟨fun h=>?_,fun h=>tail m4 (Ext.refl _) (Or.inl (by simpa using h))⟩
  refine (q9p i.op m4 ⟨by omega,by omega⟩).thenS (Ext.refl _) (by simp; omega) fun b m5 hb h5 _=>⟨b,rfl,fun h6=>retF (fun ho=>?_) (hx4.trans h5),fun h6=>tail m5 h5 (Or.inr (yb hb h6))⟩
  have:=(hiff.1 ho).2.1.2.2.1
  simp at h
  rcases this with h7 | h7
  ·exact h h7
  ·exact nb hb h6 h7
 ·rintro m5 ⟨h5,f2⟩
  refine forI (n:=i.args.length) (by have:=ha.lim; omega) (fun n m'=>Ext m4 m'/\∀ x ∈ i.args.take n,0<=x/\x < q.regs) ⟨h5,by simp⟩ ?_
  rintro n m6 I μ hn ⟨h6,hall⟩ next
  have hx6:=hx4.trans h6
  refine ⟨fun h=>?_,fun h=>?_⟩
  ·simp only [decide_eq_true_eq] at h
   obtain ⟨x,hx⟩:=q00 (l:=i.args) (k:=n) (by omega)
   refine ⟨by omega,by omega,x,by simpa using (ha.ext hx6).at' hx,fun h7=>retF (fun ho=>?_) hx6,fun h7=>⟨fun h8=>retF (fun ho=>?_) hx6,fun h8=>next (by omega) _ ⟨h6,q0f hx hall ?_⟩⟩⟩
   ·have:=(hiff.1 ho).2.2.1 x (q05 hx); simp at h7; omega
   ·have:=(hiff.1 ho).2.2.1 x (q05 hx); simp at h8; omega
   ·simp at h7 h8; omega
  ·simp only [decide_eq_false_iff_not] at h
   have hargs:∀ x ∈ i.args,0<=x/\x < q.regs:=q0w (by omega) hall
   intro m7 m8
   have s8:m8.size=m6.size+1:=by simp [m8,m7,q02]
   have h8:Ext m6 m8:=((Ext.refl m6).pushed _).scells (Nat.le_refl _) _ _
   have hx8:=hx6.trans h8
   have hb8:gcell m8 m6.size 0=some (.func (.func q0v) #[] #[vp m2.size 0,vp m1.size 0]) :=
    (Blk.scells (m:=m7) (o:=0) (r:=[.fn (.func q0v) #[] #[vp m2.size 0,vp m1.size 0]]) (Blk.push m6 _ _)).get 0
   have hsz:=h6.size
   clear_value m8
   have later:∀ m9,Ext m8 m9->∀ t,q0o Tryz.prog q0v [vi t,vp m2.size 0,vp m1.size 0] m9 ((k:Int)+1<=t/\t<=(q.code.length:Int) - 1):=fun m9 h9 t=>by
    rw [← hcl]
    exact qe3 (hbk.ext (h6.trans (h8.trans h9)) |>.get 0) (hbp.ext (h6.trans (h8.trans h9)) |>.get 4)
   have rest:(i.jumps.length=0 \/ i.op=21)->q08 Tryz.prog q12 [Sl.v xj,.func (.func q1j) #[] #[vp m6.size 0]] m8 fun r_1 m1_9 =>
     Sam [m3.size,m.size] m8 m1_9/\∃ r115:Bool,r_1=vb r115/\(r115=true->∃ b':Bool,Value.bool false=.bool b'/\(b'=true ↔ InstrOk im q k i)/\Ext m m1_9) /\
     (r115=false->∃ v119:Fn × Array Value × Array Value,gcell m1_9 m6.size 0=some (.func v119.1 v119.2.1 v119.2.2) /\
     q08 Tryz.prog q2e [.agg #[Sl.v d,Sl.v f],.agg #[vi i.op,vi i.dst,vi i.num,vi i.into,Sl.v xa,Sl.v xj],.func v119.1 v119.2.1 v119.2.2] m1_9 fun r_2 m1_10 =>
     Sam [m3.size,m.size] m1_9 m1_10/\∃ r120:Bool,r_2=vb r120/\((!r120)=true->∃ b':Bool,Value.bool false=.bool b'/\(b'=true ↔ InstrOk im q k i)/\Ext m m1_10) /\
     ((!r120)=false->q08 Tryz.prog q2t [.agg #[Sl.v d,Sl.v f],.agg #[vi i.op,vi i.dst,vi i.num,vi i.into,Sl.v xa,Sl.v xj]] m1_10 fun r_3 m1_11 =>
     Sam [m3.size,m.size] m1_10 m1_11/\∃ r125:Int,∃ r125_1:Int,r_3=.tuple #[vi r125,vi r125_1] /\
     ((decide ((xa.len:Int) ≥ r125))=true->∃ b':Bool,Value.bool (decide ((xa.len:Int)<=r125_1))=.bool b'/\(b'=true ↔ InstrOk im q k i)/\Ext m m1_11) /\
     ((decide ((xa.len:Int) ≥ r125))=false->∃ b':Bool,Value.bool false=.bool b'/\(b'=true ↔ InstrOk im q k i)/\Ext m m1_11))):=by
    intro hj0
    have hl:∀ b ∈ [m3.size,m.size],b < m8.size:=by simp; omega
    refine (q37 (hj.ext hx8) q1j #[] #[vp m6.size 0] (by decide) (fun t=>¬ ((k:Int)+1<=t/\t<=(c.len:Int) - 1)) (fun t _ m9 h9=>?_)).thenS (Ext.refl _) hl ?_
    ·exact qob (hbk.ext (h6.trans (h8.trans h9)) |>.get 0) (hbp.ext (h6.trans (h8.trans h9)) |>.get 4) (h9.gcell hb8)
    intro b m9 hb h9 _
    have hx9:=hx8.trans h9
    refine ⟨b,rfl,fun hbt=>retF (fun ho=>?_) hx9,fun hbf=>?_⟩
    ·obtain ⟨t,ht1,ht2⟩:=hb.1 hbt
     have:=(hiff.1 ho).2.2.2.2.1 t ht1
     exact ht2 (by omega)
    have hjs:∀ t ∈ i.jumps,(k:Int)+1<=t/\t<=(q.code.length:Int) - 1:=fun t ht1=>by
     rcases Classical.em ((k:Int)+1<=t/\t<=(c.len:Int) - 1) with h | h
     ·omega
     ·exact absurd (hb.2 ⟨t,ht1,h⟩) (by simp [hbf])
    refine ⟨(.func q0v,#[],#[vp m2.size 0,vp m1.size 0]),h9.gcell hb8,?_⟩
    have hl9:∀ b ∈ [m3.size,m.size],b < m9.size:=fun b hb=>h9.lt (hl b hb)
    refine (qmd (q0q.ext hx9 hd) ht (SigSl.ext hx9 hf) (ha.ext hx9) (hj.ext hx9) q0v #[] #[vp m2.size 0,vp m1.size 0] (by decide) (fun t=>(k:Int)+1<=t/\t<=(q.code.length:Int) - 1) (fun m' h'=>by simpa using later m' (h9.trans h') i.num)).thenS (Ext.refl _) hl9 ?_
    intro b2 m10 hb2 h10 _
    have hx10:=hx9.trans h10
    refine ⟨b2,rfl,fun h=>retF (fun ho=>nb hb2 h (hiff.1 ho).2.2.2.2.2.1) hx10,fun h=>?_⟩
    have hnum:=yb hb2 h
    have hl10:∀ b ∈ [m3.size,m.size],b < m10.size:=fun b hb=>h10.lt (hl9 b hb)
    refine (qp5 (q0q.ext hx10 hd) ht (SigSl.ext hx10 hf) (a:=xa) (j:=xj) hnum).thenS (Ext.refl _) hl10 ?_
    rintro _ m11 ⟨lo,hi,rfl,hA,h11⟩
    have hx11:=hx10.trans h11
    have huniq:∀ lo' hi',q1p im i lo' hi'->lo'=lo/\hi'=hi:=fun lo' hi' h'=>by
     unfold q1p at hA h'
     repeat' (split at hA)
     all_goals simp_all
     all_goals (obtain ⟨q1,e1,e2,e3⟩:=hA; simp_all)
    refine ⟨h11,lo,hi,rfl,fun h=>retB ?_ hx11,fun h=>retF (fun ho=>?_) hx11⟩
    ·rw [hiff]
     simp only [decide_eq_true_eq] at h ⊢
     refine ⟨fun h'=>⟨f1,f2,hargs,hj0,hjs,hnum,fun lo' hi' h2=>?_⟩,fun h'=>?_⟩
     ·obtain ⟨rfl,rfl⟩:=huniq lo' hi' h2; omega
     ·have:=h'.2.2.2.2.2.2 lo hi hA; omega
    ·have:=(hiff.1 ho).2.2.2.2.2.2 lo hi hA
     simp at h; omega
   refine ⟨fun h9=>⟨fun h10=>retF (fun ho=>?_) hx8,fun h10=>rest (Or.inr (by simpa using h10))⟩,fun h9=>rest (Or.inl (by simp at h9; omega))⟩
   have:=(hiff.1 ho).2.2.2.1
   simp at h9 h10; omega
theorem qjn {m:Mem} {d p:Sl} {im:Image} (h:ImageR m d p im):q0o Tryz.prog q76 [.agg #[Sl.v d,Sl.v p]] m (ImageOk im):=by
 apply qfl
 simp -zeta only [q09,q0a,rI,rS,rB,cI,cB,cS,dI,dB,dS,gk,rg]
 intro m1
 have hx1:Ext m m1:=(Ext.refl m).pushed _
 have s1:m1.size=m.size+1:=by simp [m1]
 clear_value m1
 refine (qlp (h.ext hx1)).thenS (Ext.refl _) (by simp; omega) ?_
 rintro _ m2 ⟨d',f,b,rfl,hb,hok,h2⟩
 refine ⟨h2,d',f,b,rfl,?_⟩
 intro m3 m4
 have s4:m4.size=m2.size+1:=by simp [m4,m3,q02]
 have h4:Ext m2 m4:=((Ext.refl m2).pushed _).scells (Nat.le_refl _) _ _
 have hx4:Ext m m4:=(hx1.trans h2).trans h4
 have:=h2.size
 have hpl:=h.procs.len
 have hplim:=h.procs.lim
 clear_value m4
 refine ⟨fun hn=>retF (fun ho=>nb hb hn ⟨ho.sigs,fun q hq=>(ho.each q hq).lent⟩) hx4,fun hy=>?_⟩
 obtain ⟨hsig,hlent⟩:=yb hb hy
 obtain ⟨rfl,hf⟩:=hok (by simpa using hy)
 refine forI (n:=im.procs.length) (by omega) (fun n m'=>Ext m4 m'/\∀ q ∈ im.procs.take n,ProcOk im q) ⟨Ext.refl _,by simp⟩ ?_
 rintro n m5 I μ hn ⟨h5,hall⟩ next
 have hx5:=hx4.trans h5
 refine ⟨fun hlt=>?_,fun hge=>?_⟩
 ·simp only [decide_eq_true_eq] at hlt
  obtain ⟨q,hq⟩:=q00 (l:=im.procs) (k:=n) (by omega)
  obtain ⟨a,l,c,ha,hl,hc,g0,g1,g2,g3,g4⟩:=(h.ext hx5).procs.at' hq
  refine ⟨by omega,by omega,a,by simpa using g0,l,by simpa using g1,_,by simpa using g2,_,by simpa using g3,c,by simpa using g4,?_⟩
  intro m6 m7
  have s7:m7.size=m5.size+1:=by simp [m7,m6,q02]
  have h7:Ext m5 m7:=((Ext.refl m5).pushed _).scells (Nat.le_refl _) _ _
  have hx7:=hx5.trans h7
  have hal:=ha.len
  have hcl:=hc.len
  have hclim:=hc.lim
  have hqm:=q05 hq
  clear_value m7
  refine ⟨fun e=>retF (fun ho=>?_) hx7,fun e1=>⟨fun e=>retF (fun ho=>?_) hx7,fun e2=>⟨fun e=>retF (fun ho=>?_) hx7,fun e3=>⟨fun e=>retF (fun ho=>?_) hx7,fun e4=>?_⟩⟩⟩⟩
  ·have:=(ho.each q hqm).regs; simp at e; split at e <;> omega
  ·have:=(ho.each q hqm).regs; simp at e; omega
  ·have:=(ho.each q hqm).len; simp at e; omega
  ·have:=(ho.each q hqm).len; simp at e; omega
  have hreg:(q.params.length:Int)<=q.regs/\1<=q.regs/\q.regs<=2000:=by
   simp at e1 e2; split at e1 <;> omega
  have hlen:1<=q.code.length/\q.code.length<=2000:=by simp at e3 e4; omega
  obtain ⟨i0,hi0⟩:=q00 (l:=q.code) (k:=q.code.length - 1) (by omega)
  obtain ⟨a0,j0,_,_,k0,_⟩:=(q1c.ext h7 hc).at' hi0
  refine ⟨fun m'=>Ext m7 m'/\(i0.op=23 \/ i0.op=24),?_,?_⟩
  ·have e:w64 ((c.len:Int) - 1)=((q.code.length - 1:Nat):Int):=by rw [q07 (by omega) (by omega)]; omega
   rw [e]
   refine ⟨by omega,by omega,i0.op,by simpa using k0,fun e5=>⟨fun e6=>retF (fun ho=>?_) hx7,fun e6=>⟨Ext.refl _,Or.inr (by simpa using e6)⟩⟩,fun e5=>⟨Ext.refl _,Or.inl (by simpa using e5)⟩⟩
   have:=(ho.each q hqm).last i0 hi0
   simp at e5 e6; omega
  ·rintro m8 ⟨h8,hlast⟩
   refine forI (n:=q.code.length) (by omega) (fun k m'=>Ext m7 m'/\∀ (j:Nat) (i:Instr),j < k->q.code[j]?=some i->InstrOk im q j i) ⟨h8,fun j i hj=>by omega⟩ ?_
   rintro k m9 I2 μ2 hk ⟨h9,hins⟩ next2
   have hx9:=hx7.trans h9
   refine ⟨fun hlt2=>?_,fun hge2=>?_⟩
   ·simp only [decide_eq_true_eq] at hlt2
    obtain ⟨i,hi⟩:=q00 (l:=q.code) (k:=k) (by omega)
    obtain ⟨xa,xj,hxa,hxj,k0,k1,k2,k3,k4,k5⟩:=(q1c.ext (h7.trans h9) hc).at' hi
    refine ⟨by omega,by omega,_,by simpa using k0,_,by simpa using k1,_,by simpa using k2,_,by simpa using k3,xa,by simpa using k4,xj,by simpa using k5,?_⟩
    intro m10 m11
    have s11:m11.size=m9.size+1:=by simp [m11,m10,q02]
    have h11:Ext m9 m11:=((Ext.refl m9).pushed _).scells (Nat.le_refl _) _ _
    have hx11:=hx9.trans h11
    have q1:=h9.size
    have q2:=h5.size
    clear_value m11
    refine (qij (a:=a) (l:=l) (q0q.ext hx11 h.decls) hsig.types (SigSl.ext (h4.trans (h5.trans (h7.trans (h9.trans h11)))) hf) hsig.len.2 (fun q' hq'=>(hsig.each q' hq').1) (q1c.ext (h7.trans (h9.trans h11)) hc) hreg.2.2 (k:=k) (i:=i) (hxa.ext h11) (hxj.ext h11)).thenS (Ext.refl _) (by simp; omega) ?_
    intro b' m12 hb' h12 _
    refine ⟨b',rfl,fun e=>retF (fun ho=>nb hb' e ((ho.each q hqm).each k i hi)) (hx11.trans h12),fun e=>next2 (by omega) _ ⟨h9.trans (h11.trans h12),fun j i' hj hi'=>?_⟩⟩
    rcases Nat.lt_succ_iff_lt_or_eq.1 hj with hj | rfl
    ·exact hins j i' hj hi'
    ·rw [hi] at hi'; simp at hi'; subst hi'; exact yb hb' e
   ·simp only [decide_eq_false_iff_not] at hge2
    refine next (by omega) _ ⟨h5.trans (h7.trans h9),q0f hq hall ⟨hlent q hqm,hreg,hlen,fun j i hi=>hins j i (by have:=q04 hi; omega) hi,fun i hi=>?_⟩⟩
    rw [hi0] at hi; simp at hi; subst hi; exact hlast
 ·simp only [decide_eq_false_iff_not] at hge
  exact retT ⟨hsig,q0w (by omega) hall⟩ hx5
end
section
def CellR (m:Mem) (cs:List Ce) (c:Cell):Prop:=∃ f,cs=[.i c.count,.i c.tag,.s f]/\q03 m f c.fields
def FrameR (m:Mem) (cs:List Ce) (f:Frame):Prop:=∃ r o h,cs=[.i f.proc,.i f.pc,.i f.dst,.s r,.s o,.s h]/\q03 m r f.regs/\q03 m o f.own/\q03 m h f.held
abbrev q0h (m:Mem) (s:Sl) (l:List Cell):Prop:=SlOf m 3 (CellR m) s l
abbrev FrameSl (m:Mem) (s:Sl) (l:List Frame):Prop:=SlOf m 6 (FrameR m) s l
theorem CellR.ext {m m':Mem} (hm:Ext m m') (cs:List Ce) (c:Cell):CellR m cs c->CellR m' cs c:=fun ⟨f,h1,h2⟩=>⟨f,h1,h2.ext hm⟩
theorem q0h.ext {m m':Mem} (hm:Ext m m') {s:Sl} {l:List Cell} (h:q0h m s l):q0h m' s l:=h.mono hm (CellR.ext hm)
theorem FrameR.ext {m m':Mem} (hm:Ext m m') (cs:List Ce) (c:Frame):FrameR m cs c->FrameR m' cs c:=fun ⟨r,o,h,h1,h2,h3,h4⟩=>⟨r,o,h,h1,h2.ext hm,h3.ext hm,h4.ext hm⟩
theorem FrameSl.ext {m m':Mem} (hm:Ext m m') {s:Sl} {l:List Frame} (h:FrameSl m s l):FrameSl m' s l:=h.mono hm (FrameR.ext hm)
theorem q0h.at' {m:Mem} {s:Sl} {l:List Cell} (h:q0h m s l) {k:Nat} {x:Cell} (hk:l[k]?=some x) :
  ∃ f,q03 m f x.fields/\gcell m s.blk (s.off+k*3)=some (vi x.count)/\gcell m s.blk (s.off+k*3+1)=some (vi x.tag)/\gcell m s.blk (s.off+k*3+2)=some (Sl.v f):=by
 obtain ⟨cs,⟨f,rfl,hf⟩,hr⟩:=h.row k x hk
 exact ⟨f,hf,hr 0 (.i x.count) rfl,hr 1 (.i x.tag) rfl,hr 2 (.s f) rfl⟩
theorem FrameSl.at' {m:Mem} {s:Sl} {l:List Frame} (h:FrameSl m s l) {k:Nat} {x:Frame} (hk:l[k]?=some x) :
  ∃ r o e,q03 m r x.regs/\q03 m o x.own/\q03 m e x.held/\gcell m s.blk (s.off+k*6)=some (vi x.proc)/\gcell m s.blk (s.off+k*6+1)=some (vi x.pc)/\gcell m s.blk (s.off+k*6+2)=some (vi x.dst) /\
   gcell m s.blk (s.off+k*6+3)=some (Sl.v r)/\gcell m s.blk (s.off+k*6+4)=some (Sl.v o)/\gcell m s.blk (s.off+k*6+5)=some (Sl.v e):=by
 obtain ⟨cs,⟨r,o,e,rfl,hr,ho,he⟩,hrow⟩:=h.row k x hk
 exact ⟨r,o,e,hr,ho,he,hrow 0 (.i x.proc) rfl,hrow 1 (.i x.pc) rfl,hrow 2 (.i x.dst) rfl,hrow 3 (.s r) rfl,hrow 4 (.s o) rfl,hrow 5 (.s e) rfl⟩
theorem _root_.Go.Vc.SlOf.atI {m:Mem} {s:Sl} {l:List Int} (h:SlOf m 1 IntR s l) {i:Int} (h0:0<=i) (h1:i < l.length):gcell m s.blk (s.off+i.toNat*1)=some (vi (at' l i)):=q03.at' h (at_get h0 h1)
structure RV (m:Mem) (mb o:Nat) (d p out hp fr:Sl) (im:Image) (s:St):Prop where
 image:ImageR m d p im
 decls:gcell m mb 0=some (Sl.v d)
 procs:gcell m mb 1=some (Sl.v p)
 status:gcell m mb o=some (vi s.status)
 value:gcell m mb (o+1)=some (vi s.value)
 calls:gcell m mb (o+2)=some (vi s.calls)
 most:gcell m mb (o+3)=some (vi s.most)
 outc:gcell m mb (o+4)=some (Sl.v out)
 heapc:gcell m mb (o+5)=some (Sl.v hp)
 framesc:gcell m mb (o+6)=some (Sl.v fr)
 out:q03 m out s.out
 heap:q0h m hp s.heap
 frames:FrameSl m fr s.frames
theorem RV.ext {m m':Mem} {mb o:Nat} {d p out hp fr:Sl} {im:Image} {s:St} (h:RV m mb o d p out hp fr im s) (hx:Ext m m'):RV m' mb o d p out hp fr im s :=
 ⟨h.image.ext hx,hx.gcell h.decls,hx.gcell h.procs,hx.gcell h.status,hx.gcell h.value,hx.gcell h.calls,hx.gcell h.most,hx.gcell h.outc,hx.gcell h.heapc,hx.gcell h.framesc,h.out.ext hx,q0h.ext hx h.heap,FrameSl.ext hx h.frames⟩
theorem leastN (P:Nat->Prop):∀ (n:Nat),P n->∃ k,P k/\∀ j,P j->k<=j:=by
 intro n
 induction n using Nat.strongRecOn with
 | _ n ih =>
  intro hn
  rcases Classical.em (∃ j,j < n/\P j) with ⟨j,hj,hp⟩ | hno
  ·exact ih j hj hp
  ·exact ⟨n,hn,fun j hj=>Classical.byContradiction fun h=>hno ⟨j,by omega,hj⟩⟩
theorem whileG1 {γ σ:Type} {m:Mem} {s0:σ} {Body:(σ->Mem->Prop)->(σ->Mem->Nat)->σ->Mem->Prop} (J:γ->σ->Mem->Prop) (ν:γ->Nat) (g0:γ) (h0:J g0 s0 m)
  (h:∀ (g:γ) (s:σ) (m1:Mem) (I:σ->Mem->Prop) (μ:σ->Mem->Nat),J g s m1->(∀ g' s' m',J g' s' m'->ν g' < ν g->I s' m'/\μ s' m' < μ s m1)->Body I μ s m1) :
  ∃ (I:σ->Mem->Prop) (μ:σ->Mem->Nat),I s0 m/\∀ s m1,I s m1->Body I μ s m1:=by
 classical
 let I:σ->Mem->Prop:=fun s m=>∃ g,J g s m
 have hex:∀ s m,I s m->∃ k,(∃ g,J g s m/\ν g=k)/\∀ j,(∃ g,J g s m/\ν g=j)->k<=j:=fun s m ⟨g,hg⟩=>leastN _ (ν g) ⟨g,hg,rfl⟩
 let μ:σ->Mem->Nat:=fun s m=>if hI:I s m then Classical.choose (hex s m hI) else 0
 refine ⟨I,μ,⟨g0,h0⟩,fun s m1 hI=>?_⟩
 obtain ⟨g,hg,hn⟩:=(Classical.choose_spec (hex s m1 hI)).1
 refine h g s m1 I μ hg fun g' s' m' hJ hlt=>⟨⟨g',hJ⟩,?_⟩
 have hI':I s' m':=⟨g',hJ⟩
 simp only [μ,dif_pos hI,dif_pos hI']
 exact Nat.lt_of_le_of_lt ((Classical.choose_spec (hex s' m' hI')).2 _ ⟨g',hJ,rfl⟩) (hn ▸ hlt)
theorem whileG2 {γ σ τ:Type} {m:Mem} {s0:σ} {t0:τ} {Body:(σ->τ->Mem->Prop)->(σ->τ->Mem->Nat)->σ->τ->Mem->Prop} (J:γ->σ->τ->Mem->Prop) (ν:γ->Nat) (g0:γ) (h0:J g0 s0 t0 m)
  (h:∀ (g:γ) (s:σ) (t:τ) (m1:Mem) (I:σ->τ->Mem->Prop) (μ:σ->τ->Mem->Nat),J g s t m1->(∀ g' s' t' m',J g' s' t' m'->ν g' < ν g->I s' t' m'/\μ s' t' m' < μ s t m1)->Body I μ s t m1) :
  ∃ (I:σ->τ->Mem->Prop) (μ:σ->τ->Mem->Nat),I s0 t0 m/\∀ s t m1,I s t m1->Body I μ s t m1:=by
 obtain ⟨I,μ,h1,h2⟩:=whileG1 (σ:=σ × τ) (s0:=(s0,t0)) (Body:=fun I μ st m1=>Body (fun s t=>I (s,t)) (fun s t=>μ (s,t)) st.1 st.2 m1) (fun g st m=>J g st.1 st.2 m) ν g0 h0 (fun g st m1 I μ hJ hn=>h g st.1 st.2 m1 (fun s t=>I (s,t)) (fun s t=>μ (s,t)) hJ fun g' s' t' m'=>hn g' (s',t') m')
 exact ⟨fun s t=>I (s,t),fun s t=>μ (s,t),h1,fun s t=>h2 (s,t)⟩
end
section
theorem _root_.Go.Vc.SlOf.rows {m:Mem} {s:Sl} {l:List Int} (h:SlOf m 1 IntR s l):rowIs m s.blk s.off (l.map Ce.i):=fun i c hc=>by
 rw [List.getElem?_map] at hc
 obtain ⟨x,hx,rfl⟩:=Option.map_eq_some_iff.1 hc
 have:=q03.at' h hx
 rw [Nat.mul_one] at this
 exact this
def GivesI (f:Nat) (args:List Value) (m:Mem) (l:List Int):Prop:=q08 Tryz.prog f args m fun v m'=>∃ s,v=Sl.v s/\Own m m' ty_int 1 s (l.map Ce.i)/\Ext m m'
theorem GivesI.then {f:Nat} {args:List Value} {m:Mem} {l:List Int} {K:Value->Mem->Prop} (h:GivesI f args m l) (hl:l.length<=1000000000) (hk:∀ s m',Own m m' ty_int 1 s (l.map Ce.i)->q03 m' s l->Ext m m'->K (Sl.v s) m'):q08 Tryz.prog f args m K :=
 h.mono fun _ _ ⟨s,he,ho,hx⟩=>he ▸ hk s _ ho (q03.ofOwn ho (by omega)) hx
theorem GivesI.thenS {f:Nat} {args:List Value} {m:Mem} {l:List Int} {K:Value->Mem->Prop} {bs:List Nat} (h:GivesI f args m l) (hl:l.length<=1000000000) (hb:∀ b ∈ bs,b < m.size) (hk:∀ s m',Own m m' ty_int 1 s (l.map Ce.i)->q03 m' s l->Ext m m'->K (Sl.v s) m'):q08 Tryz.prog f args m fun v m'=>Sam bs m m'/\K v m' :=
 h.mono fun _ _ ⟨s,he,ho,hx⟩=>⟨hx.sam hb,he ▸ hk s _ ho (q03.ofOwn ho (by omega)) hx⟩
theorem q1b (w:Int) (m:Mem):q0o Tryz.prog q13 [vi w] m (1000<=w):=by
 apply qgm
 exact retB (by simp) (Ext.refl _)
theorem q2v {m:Mem} {hp:Sl} {h:List Cell} (hh:q0h m hp h) {w:Int} (hw:-9223372036854775808<=w/\w<=9223372036854775807):q0o Tryz.prog q1w [Sl.v hp,vi w] m (live h w):=by
 apply qll
 have hl:=hh.len
 have hlim:=hh.lim
 have e1:w64 ((hp.len:Int) - 1)=(hp.len:Int) - 1:=q07 (by omega) (by omega)
 rw [e1]
 have e2:w64 (w - 1000)=w - 1000 \/ (w < 1000/\¬ (0<=w64 (w - 1000)/\w64 (w - 1000)<=(hp.len:Int) - 1)) \/ (w < 1000/\w64 (w - 1000)=w - 1000+18446744073709551616):=by
  rcases Classical.em (-9223372036854775808<=w - 1000) with h1 | h1
  ·exact Or.inl (q07 h1 (by omega))
  ·refine Or.inr (Or.inr ⟨by omega,?_⟩)
   simp only [w64,IntKind.wrap,IntKind.signed,IntKind.bits]
   simp
   omega
 refine (q0e _ _ _ _).then fun b m1 hb h1=>⟨b,rfl,fun hbt=>?_,fun hbf=>?_⟩
 ·refine (q1b _ _).then fun b2 m2 hb2 h2=>⟨b2,rfl,fun hb2t=>?_,fun hb2f=>?_⟩
  ·have h1000:=hb2.1 hb2t
   have e3:w64 (w - 1000)=w - 1000:=q07 (by omega) (by omega)
   rw [e3] at hb ⊢
   have hr:=hb.1 hbt
   obtain ⟨c,hc⟩:=q00 (l:=h) (k:=(w - 1000).toNat) (by omega)
   obtain ⟨f,hf,g0,_⟩:=(q0h.ext (h1.trans h2) hh).at' hc
   refine ⟨by omega,by omega,c.count,g0,retB ?_ (h1.trans h2)⟩
   simp only [gt_iff_lt,decide_eq_true_eq]
   refine ⟨fun hp=>⟨h1000,c,hc,hp⟩,fun ⟨_,c',hc',hp⟩=>?_⟩
   unfold ix at hc'
   rw [hc] at hc'; simp at hc'; subst hc'; exact hp
  ·exact retF (fun hlv=>fb hb2 hb2f hlv.1) (h1.trans h2)
 ·refine retF (fun ⟨h1000,c,hc,_⟩=>fb hb hbf ?_) h1
  have:=q04 hc
  unfold ix at this
  rw [q07 (by omega) (by omega)]
  omega
theorem qp6 (op:Int) (m:Mem):q0o Tryz.prog qc0 [vi op] m (isCall op):=by
 apply ql4
 refine ⟨fun h=>retT ?_ (Ext.refl _),fun h=>⟨fun h2=>retT ?_ (Ext.refl _),fun h2=>retB ?_ (Ext.refl _)⟩⟩ <;> simp [isCall] at*<;> omega
theorem qmq {im:Image} {x:Instr} {q:Proc} (hq:im.procs[x.num.toNat]?=some q) (k:Nat):lentIn im x k=true ↔ (k:Int) ∈ q.lent:=by
 simp [lentIn,q0y,hq,List.any_eq_true]
def CallOk (im:Image) (x:Instr):Prop:=(x.op=9 \/ x.op=24)->0<=x.num/\∃ q,im.procs[x.num.toNat]?=some q
theorem InstrOk.call {im:Image} {p:Proc} {k:Nat} {x:Instr} (h:InstrOk im p k x):CallOk im x:=fun e=>by
 have hOp:=h.op
 unfold OpOk at hOp
 rw [if_neg (by omega),if_neg (by omega),if_neg (by omega),if_neg (by omega),if_pos e] at hOp
 obtain ⟨q,h0,h1,_⟩:=hOp
 exact ⟨h0,q,h1⟩
theorem q9d {m:Mem} {d p:Sl} {im:Image} (h:ImageR m d p im) {x:Instr} (hc:CallOk im x) (a j:Sl) (k:Nat) :
  q0o Tryz.prog q5c [.agg #[Sl.v d,Sl.v p],.agg #[vi x.op,vi x.dst,vi x.num,vi x.into,Sl.v a,Sl.v j],vi k] m ((x.op=9 \/ x.op=24)/\lentIn im x k=true):=by
 apply qi9
 simp -zeta only [q09,q0a,rI,rS,rB,cI,cB,cS,dI,dB,dS,gk,rg]
 intro m1 m2
 have hx2:Ext m m2:=((Ext.refl m).pushed _).pushed _
 have hl:∀ b ∈ [m1.size,m.size],b < m2.size:=by simp [m2,m1]; omega
 have hpl:=h.procs.len
 clear_value m2
 have key:∀ e:x.op=9 \/ x.op=24,(0:Int)<=x.num/\x.num < (p.len:Int)/\∃ v22:Sl,gcell m2 p.blk (p.off+Int.toNat x.num*5+1)=some (Sl.v v22) /\
   q08 Tryz.prog q62 [Sl.v v22,vi k] m2 fun r m1_2=>Sam [m1.size,m.size] m2 m1_2/\∃ r24:Bool,r=vb r24/\∃ b:Bool,vb r24=.bool b/\(b=true ↔ ((x.op=9 \/ x.op=24)/\lentIn im x k=true))/\Ext m m1_2:=fun e=>by
  obtain ⟨h0,q,hq⟩:=hc e
  obtain ⟨a',l',c',ha,hl',hc',g0,g1,g2,g3,g4⟩:=(h.ext hx2).procs.at' hq
  have:=q04 hq
  refine ⟨h0,by omega,l',g1,(qj5 hl' _).thenS (Ext.refl _) hl fun b m3 hb h3 _=>⟨b,rfl,retB ?_ (hx2.trans h3)⟩⟩
  rw [hb,qmq hq]
  exact ⟨fun h=>⟨e,h⟩,fun h=>h.2⟩
 refine ⟨fun h9=>key (Or.inl (by simpa using h9)),fun h9=>⟨fun h24=>key (Or.inr (by simpa using h24)),fun h24=>retF (fun ⟨e,_⟩=>?_) hx2⟩⟩
 simp at h9 h24; omega
theorem qm9 (op:Int) (m:Mem):q0o Tryz.prog q9g [vi op] m (op=6 \/ op=9 \/ op=10 \/ op=11):=by
 apply qhz
 refine ⟨fun h=>retT ?_ (Ext.refl _),fun h=>⟨fun h2=>retT ?_ (Ext.refl _),fun h2=>⟨fun h3=>retT ?_ (Ext.refl _),fun h3=>retB ?_ (Ext.refl _)⟩⟩⟩ <;> simp at*<;> omega
def q2l (im:Image) (x:Instr) (n:Nat):List Int:=unlent im x 0 (x.args.take n)
theorem qbz (im:Image) (x:Instr):∀ (l r:List Int) (k:Nat),unlent im x k (l ++ r)=unlent im x k l ++ unlent im x (k+l.length) r
 | [],r,k=>by simp [unlent]
 | a :: l,r,k=>by
  have:=qbz im x l r (k+1)
  simp only [List.cons_append,unlent,this,List.length_cons]
  have e:k+(l.length+1)=k+1+l.length:=by omega
  rw [e]
  split <;> simp
theorem q91 (im:Image) (x:Instr):∀ (l:List Int) (k:Nat),(unlent im x k l).length<=l.length
 | [],k=>Nat.le_refl _
 | a :: l,k=>by
  have:=q91 im x l (k+1)
  simp only [unlent]
  split <;> simp <;> omega
theorem qjs (im:Image) (x:Instr):(taken im x).length<=x.args.length:=by
 unfold taken
 split
 ·exact Nat.le_refl _
 split
 ·simp; omega
 split
 ·exact q91 _ _ _ _
 ·simp
theorem Ext.sam2 {m0 a b:Mem} (ha:Ext m0 a) (hb:Ext m0 b) {l:List Nat} (hl:∀ x ∈ l,x < m0.size):Sam l a b:=fun x hx=>by rw [ha.same x (hl x hx),hb.same x (hl x hx)]
theorem q57 {m0 m:Mem} {s:Sl} {l:List Int} {v:Int} {K:Sl->Mem->Prop} (ho:Own m0 m ty_int 1 s (l.map Ce.i)) (hx:Ext m0 m) (hl:l.length < 1000000000)
  (hk:∀ r m',Own m0 m' ty_int 1 r ((l ++ [v]).map Ce.i)->Ext m0 m'->K r m') :
  appC (m.push (.cells (vals [.i v]) ty_int)) ty_int [.i (0:Int)] 8 s (Sl.mk m.size 0 1 1) K:=by
 have hlen:s.len=l.length:=by have:=ho.len; simp at this; omega
 refine Own.append (zs:=[.i 0]) (new:=[.i v]) (ho.ext (Ext.push _ _)) (hx.pushed _) rfl (Blk.push m _ _).row (by simp; omega) fun r m' h1 h2 h3 h4 h5 h6=>?_
 exact hk r m' (by simpa using h1) h2
theorem qoa {m:Mem} {d p:Sl} {im:Image} (h:ImageR m d p im) {x:Instr} (hc:CallOk im x) {a j:Sl} (ha:q03 m a x.args) (hsm:x.args.length<=1000000) (h16:(x.op=16 \/ x.op=17)->1<=x.args.length) :
  GivesI q6x [.agg #[Sl.v d,Sl.v p],.agg #[vi x.op,vi x.dst,vi x.num,vi x.into,Sl.v a,Sl.v j]] m (taken im x):=by
 apply qjf
 simp -zeta only [q09,q0a,rI,rS,rB,cI,cB,cS,dI,dB,dS,gk,rg]
 intro m1 m2 m3
 have hx2:Ext m m2:=((Ext.refl m).pushed _).pushed _
 have s2:m2.size=m.size+2:=by simp [m2,m1]
 have h3:Ext m2 m3:=(Ext.refl m2).pushed _
 have ho:Own m2 m3 ty_int 1 (.mk m2.size 0 0 0) []:=Own.new (Ext.refl m2) ty_int 1 [] 0 (by simp)
 have s1:m1.size=m.size+1:=by simp [m1]
 have hal:=ha.len
 have hl:∀ b ∈ [m1.size,m.size],b < m2.size:=fun b hb=>by simp at hb; omega
 clear_value m3
 clear_value m2
 have hbase:∀ {m' s l},Own m2 m' ty_int 1 s l->Own m m' ty_int 1 s l:=fun ho=>ho.base hx2.size
 refine ⟨fun v m'=>Ext m2 m'/\Own m2 m' ty_int 1 (.mk m2.size 0 0 0) []/\(v=true ↔ (x.op=15 \/ x.op=6 \/ x.op=10 \/ x.op=11 \/ x.op=18 \/ x.op=23 \/ x.op=9 \/ x.op=24)),?_,?_⟩
 ·refine (qm9 _ _).thenS h3 hl fun b m4 hb h4 hx4=>⟨b,rfl,fun hbt=>⟨hx4,ho.ext h4,by have:=hb.1 hbt; simp; omega⟩,fun hbf=>?_⟩
  have hn:=fb hb hbf
  refine ⟨fun e=>⟨hx4,ho.ext h4,by simp at e; simp; omega⟩,fun e1=>⟨fun e=>⟨hx4,ho.ext h4,by simp at e; simp; omega⟩,fun e2=>⟨fun e=>⟨hx4,ho.ext h4,by simp at e; simp; omega⟩,fun e3=>⟨hx4,ho.ext h4,by simp at e1 e2 e3; simp; omega⟩⟩⟩⟩
 ·rintro v m4 ⟨h4,ho4,hv⟩
  refine ⟨fun hvt=>?_,fun hvf=>?_⟩
  ·have hT:=hv.1 hvt
   refine forSI (n:=x.args.length) (by omega) (fun k s m'=>Ext m2 m'/\Own m2 m' ty_int 1 s ((if x.op=9 \/ x.op=24 then q2l im x k else x.args.take k).map Ce.i)) ⟨h4,by simpa [q2l,unlent] using ho4⟩ ?_
   rintro k s m5 I μ hk ⟨h5,ho5⟩ next
   have hx5:=hx2.trans h5
   refine ⟨fun hlt=>?_,fun hge=>?_⟩
   ·simp only [decide_eq_true_eq] at hlt
    obtain ⟨y,hy⟩:=q00 (l:=x.args) (k:=k) (by omega)
    have hun:q2l im x (k+1)=q2l im x k ++ unlent im x k [y]:=by
     unfold q2l
     rw [q06 hy,qbz]
     simp; congr 2; omega
    refine (q9d (h.ext hx5) hc a j k).thenS h5 hl fun b m6 hb h6 h62=>⟨b,rfl,fun hbt=>?_,fun hbf=>?_⟩
    ·have hnl:=nb hb hbt
     refine ⟨by omega,by omega,y,by simpa using (ha.ext (hx2.trans h62)).at' hy,?_⟩
     intro m7
     have hlen7:(if x.op=9 \/ x.op=24 then q2l im x k else x.args.take k).length<=k:=by
      split
      ·refine Nat.le_trans (q91 _ _ _ _) ?_; simp; omega
      ·simp; omega
     refine q57 (ho5.ext h6) h62 (by omega) fun r m8 q1 q2=>?_
     refine ⟨Ext.sam2 (h62.pushed _) q2 hl,next (by omega) _ _ ⟨q2,?_⟩⟩
     by_cases e:x.op=9 \/ x.op=24
     ·rw [if_pos e] at q1 ⊢
      rw [hun]
      have:unlent im x k [y]=[y]:=by
       simp only [unlent]; rw [if_neg (fun hl=>hnl ⟨e,hl⟩)]
      rw [this]; exact q1
     ·rw [if_neg e] at q1 ⊢
      rw [q06 hy]; exact q1
    ·have hnl:=yb hb hbf
     refine next (by omega) _ _ ⟨h62,?_⟩
     have ho6:=ho5.ext h6
     rw [if_pos hnl.1] at ho6 ⊢
     rw [hun]
     have:unlent im x k [y]=[]:=by
      simp only [unlent]; rw [if_pos hnl.2]
     rw [this,List.append_nil]; exact ho6
   ·simp only [decide_eq_false_iff_not] at hge
    refine ⟨s,rfl,?_,hx5⟩
    have e2:taken im x=if x.op=9 \/ x.op=24 then q2l im x k else x.args.take k:=by
     have e3:x.args.take k=x.args:=q0b (by omega)
     unfold taken q2l
     rw [e3]
     by_cases e:x.op=9 \/ x.op=24
     ·rw [if_neg (by omega),if_neg (by omega),if_pos e,if_pos e]
     ·rw [if_pos (by omega),if_neg e]
    rw [e2]; exact hbase ho5
  ·have hT:¬ (x.op=15 \/ x.op=6 \/ x.op=10 \/ x.op=11 \/ x.op=18 \/ x.op=23 \/ x.op=9 \/ x.op=24):=fun e=>by have:=hv.2 e; rw [hvf] at this; simp at this
   have hx4:=hx2.trans h4
   have one:∀ e:x.op=16 \/ x.op=17,(0:Int)<=(0:Int)/\(0:Int) < (a.len:Int)/\∃ v63:Int,gcell m4 a.blk (a.off+Int.toNat (0:Int)*1)=some (vi v63) /\
     appC (m4.push (.cells (vals [.i v63]) 3)) 3 [.i (0:Int)] 8 (Sl.mk m2.size 0 0 0) (Sl.mk m4.size 0 1 1) fun r65 m1_10=>Sam [m1.size,m.size] (m4.push (.cells (vals [.i v63]) 3)) m1_10/\∃ s,Sl.v r65=Sl.v s/\Own m m1_10 ty_int 1 s ((taken im x).map Ce.i)/\Ext m m1_10:=fun e=>by
    have h1:=h16 e
    obtain ⟨y,hy⟩:=q00 (l:=x.args) (k:=0) (by omega)
    refine ⟨by omega,by omega,y,by simpa using (ha.ext hx4).at' hy,q57 (l:=[]) ho4 h4 (by simp) fun r m8 q1 q2=>⟨Ext.sam2 (h4.pushed _) q2 hl,r,rfl,?_,hx2.trans q2⟩⟩
    have e2:taken im x=[y]:=by
     unfold taken
     rw [if_neg (by omega),if_pos e]
     cases hargs:x.args with
     | nil=>rw [hargs] at hy; simp at hy
     | cons z l=>rw [hargs] at hy; simp at hy; subst hy; rfl
    rw [e2]; exact hbase q1
   refine ⟨fun e=>one (Or.inl (by simpa using e)),fun e1=>⟨fun e=>one (Or.inr (by simpa using e)),fun e2=>⟨_,rfl,?_,hx4⟩⟩⟩
   have e3:taken im x=[]:=by
    simp at e1 e2
    unfold taken
    rw [if_neg (by omega),if_neg (by omega),if_neg (by omega)]
   rw [e3]; exact hbase ho4
theorem q2c {m:Mem} {s:Sl} {l:List Int} (hl:q03 m s l) (hsm:l.length<=1000000000):GivesI q15 [Sl.v s] m l:=by
 apply qi2
 intro m1
 have h1:Ext m m1:=(Ext.refl m).pushed _
 have ho:Own m m1 ty_int 1 (.mk m.size 0 0 0) []:=Own.new (Ext.refl m) ty_int 1 [] 0 (by simp)
 have hll:=hl.len
 refine Own.append (zs:=[.i 0]) (new:=l.map Ce.i) ho h1 (by simp [hll]) (hl.ext h1).rows (by simp; omega) fun r m' h1 h2 h3 h4 h5 h6=>⟨r,rfl,by simpa using h1,h2⟩
theorem qpd {m:Mem} {s t:Sl} {l r:List Int} (hl:q03 m s l) (hr:q03 m t r) (hsm:l.length+r.length<=1000000000):GivesI qbw [Sl.v s,Sl.v t] m (l ++ r):=by
 apply qkr
 refine (q2c hl (by omega)).then (by omega) fun q m1 h1 h2 h3=>⟨q,rfl,?_⟩
 have hrl:=hr.len
 have hql:=h2.len
 refine Own.append (zs:=[.i 0]) (new:=r.map Ce.i) h1 h3 (by simp [hrl]) (hr.ext h3).rows (by omega) fun u m' h4 h5 h6 h7 h8 h9=>⟨u,rfl,by simpa using h4,h5⟩
theorem q50 {m:Mem} {s:Sl} {l:List Int} (hl:q03 m s l):q0o Tryz.prog q3s [Sl.v s] m (Zero l):=by
 apply qj7
 have hll:=hl.len
 refine forI (n:=l.length) (hll ▸ hl.lim) (fun k m'=>Ext m m'/\∀ y ∈ l.take k,y=0) ⟨Ext.refl _,by simp⟩ ?_
 rintro k m1 I μ hk ⟨hx,hn⟩ next
 refine ⟨fun h=>?_,fun h=>retT (q0w (by simp at h; omega) hn) hx⟩
 simp only [decide_eq_true_eq] at h
 obtain ⟨x,hx1⟩:=q00 (l:=l) (k:=k) (by omega)
 refine ⟨by omega,by omega,x,by simpa using hx.gcell (hl.at' hx1),fun h2=>retF (fun hz=>?_) hx,fun h2=>next (by omega) _ ⟨hx,q0f hx1 hn (by simpa using h2)⟩⟩
 have:=hz x (q05 hx1)
 simp at h2; omega
theorem qfq {m:Mem} {s:Sl} {l:List Int} (hl:q03 m s l):q0o Tryz.prog q66 [Sl.v s] m (∀ o ∈ l,0<=o):=by
 apply qdt
 have hll:=hl.len
 refine forI (n:=l.length) (hll ▸ hl.lim) (fun k m'=>Ext m m'/\∀ y ∈ l.take k,0<=y) ⟨Ext.refl _,by simp⟩ ?_
 rintro k m1 I μ hk ⟨hx,hn⟩ next
 refine ⟨fun h=>?_,fun h=>retT (q0w (by simp at h; omega) hn) hx⟩
 simp only [decide_eq_true_eq] at h
 obtain ⟨x,hx1⟩:=q00 (l:=l) (k:=k) (by omega)
 refine ⟨by omega,by omega,x,by simpa using hx.gcell (hl.at' hx1),fun h2=>retF (fun hz=>?_) hx,fun h2=>next (by omega) _ ⟨hx,q0f hx1 hn (by simpa using h2)⟩⟩
 have:=hz x (q05 hx1)
 simp at h2; omega
theorem qnc {m:Mem} {s t:Sl} {l r:List Int} (hl:q03 m s l) (hr:q03 m t r):q0o Tryz.prog q9b [Sl.v s,Sl.v t] m (l=r):=by
 apply qhy
 have hll:=hl.len
 have hrl:=hr.len
 refine ⟨fun h=>retF (fun e=>by subst e; simp at h; omega) (Ext.refl _),fun h=>?_⟩
 simp at h
 refine forI (n:=l.length) (hll ▸ hl.lim) (fun k m'=>Ext m m'/\l.take k=r.take k) ⟨Ext.refl _,by simp⟩ ?_
 rintro k m1 I μ hk ⟨hx,hn⟩ next
 refine ⟨fun h=>?_,fun h=>retT (by simp at h; rwa [q0b (by omega),q0b (by omega)] at hn) hx⟩
 simp only [decide_eq_true_eq] at h
 obtain ⟨x,hx1⟩:=q00 (l:=l) (k:=k) (by omega)
 obtain ⟨y,hy1⟩:=q00 (l:=r) (k:=k) (by omega)
 refine ⟨by omega,by omega,x,by simpa using hx.gcell (hl.at' hx1),by omega,by omega,y,by simpa using hx.gcell (hr.at' hy1),fun h2=>retF (fun e=>?_) hx,fun h2=>next (by omega) _ ⟨hx,?_⟩⟩
 ·subst e; rw [hx1] at hy1; simp at hy1; simp at h2; exact h2 hy1
 ·rw [q06 hx1,q06 hy1,hn]; simp at h2; rw [h2]
abbrev fv (f:Frame) (r o h:Sl):Value:=.agg #[vi f.proc,vi f.pc,vi f.dst,Sl.v r,Sl.v o,Sl.v h]
abbrev xv (x:Instr) (a j:Sl):Value:=.agg #[vi x.op,vi x.dst,vi x.num,vi x.into,Sl.v a,Sl.v j]
theorem qjc {m:Mem} {f:Frame} {r o e:Sl} (hr:q03 m r f.regs) {x:Instr} {a j:Sl} (ha:q03 m a x.args) (hin:∀ y ∈ x.args,0<=y/\y < f.regs.length) :
  q0o Tryz.prog q7f [fv f r o e,xv x a j] m (∀ y ∈ x.args,at' f.regs y < 1000):=by
 apply qfi
 simp -zeta only [q09,q0a,rI,rS,rB,cI,cB,cS,dI,dB,dS,gk,rg]
 intro m1 m2
 have hx2:Ext m m2:=((Ext.refl m).pushed _).pushed _
 have hl:∀ b ∈ [m1.size,m.size],b < m2.size:=by simp [m2,m1]; omega
 have hal:=ha.len
 have hrl:=hr.len
 clear_value m2
 refine forI (n:=x.args.length) (hal ▸ ha.lim) (fun k m'=>Ext m2 m'/\∀ y ∈ x.args.take k,at' f.regs y < 1000) ⟨Ext.refl _,by simp⟩ ?_
 rintro k m3 I μ hk ⟨hx,hn⟩ next
 have hx3:=hx2.trans hx
 refine ⟨fun h=>?_,fun h=>retT (q0w (by simp at h; omega) hn) hx3⟩
 simp only [decide_eq_true_eq] at h
 obtain ⟨y,hy⟩:=q00 (l:=x.args) (k:=k) (by omega)
 have hyr:=hin y (q05 hy)
 refine ⟨by omega,by omega,y,by simpa using hx3.gcell (ha.at' hy),hyr.1,by omega,at' f.regs y,by simpa using hx3.gcell (hr.atI hyr.1 hyr.2),?_⟩
 refine (q1b _ _).thenS hx hl fun b m4 hb h4 h42=>⟨b,rfl,fun hbt=>retF (fun hz=>?_) (hx2.trans h42),fun hbf=>next (by omega) _ ⟨h42,q0f hy hn ?_⟩⟩
 ·have:=hz y (q05 hy); have:=hb.1 hbt; omega
 ·have:=fb hb hbf; omega
theorem q61 (l r:List Int):ptrs (l ++ r)=ptrs l ++ ptrs r:=by simp [ptrs]
theorem q53 (l:List Int):(ptrs l).length<=l.length:=List.length_filter_le _ _
theorem q6k {m:Mem} {s:Sl} {l:List Int} (hl:q03 m s l) (hsm:l.length<=100000000):GivesI q4a [Sl.v s] m (ptrs l):=by
 apply qff
 intro m1
 have h1:Ext m m1:=(Ext.refl m).pushed _
 have ho:Own m m1 ty_int 1 (.mk m.size 0 0 0) []:=Own.new (Ext.refl m) ty_int 1 [] 0 (by simp)
 have hll:=hl.len
 clear_value m1
 refine forSI (n:=l.length) (by omega) (fun k s m'=>Ext m m'/\Own m m' ty_int 1 s ((ptrs (l.take k)).map Ce.i)) ⟨h1,by simpa [ptrs] using ho⟩ ?_
 rintro k s m2 I μ hk ⟨hx,ho2⟩ next
 refine ⟨fun h=>?_,fun h=>?_⟩
 ·simp only [decide_eq_true_eq] at h
  obtain ⟨x,hx1⟩:=q00 (l:=l) (k:=k) (by omega)
  refine ⟨by omega,by omega,x,by simpa using hx.gcell (hl.at' hx1),?_⟩
  refine (q1b _ _).then fun b m3 hb h3=>⟨b,rfl,fun hbt=>?_,fun hbf=>?_⟩
  ·have hx3:=hx.trans h3
   refine ⟨by omega,by omega,x,by simpa using hx3.gcell (hl.at' hx1),?_⟩
   intro m4
   refine q57 (ho2.ext h3) hx3 (by have:=q53 (l.take k); simp at this; omega) fun r m5 q1 q2=>next (by omega) _ _ ⟨q2,?_⟩
   rw [q06 hx1,q61]
   have:ptrs [x]=[x]:=by simp [ptrs,hb.1 hbt]
   rw [this]; exact q1
  ·refine next (by omega) _ _ ⟨hx.trans h3,?_⟩
   rw [q06 hx1,q61]
   have:ptrs [x]=[]:=by simp [ptrs]; have:=fb hb hbf; omega
   rw [this,List.append_nil]; exact ho2.ext h3
 ·simp only [decide_eq_false_iff_not] at h
  rw [q0b (by omega)] at ho2
  exact ⟨s,rfl,ho2,hx⟩
theorem q9e {m:Mem} {f:Frame} {r o e:Sl} (hr:q03 m r f.regs) {s:Sl} {l:List Int} (hs:q03 m s l) (hin:∀ y ∈ l,0<=y/\y < f.regs.length) (hsm:l.length<=100000000) :
  GivesI q5h [fv f r o e,Sl.v s] m (words f l):=by
 apply qia
 simp -zeta only [q09,q0a,rI,rS,rB,cI,cB,cS,dI,dB,dS,gk,rg]
 intro m1 m2
 have hx1:Ext m m1:=(Ext.refl m).pushed _
 have h2:Ext m1 m2:=(Ext.refl m1).pushed _
 have ho:Own m1 m2 ty_int 1 (.mk m1.size 0 0 0) []:=Own.new (Ext.refl m1) ty_int 1 [] 0 (by simp)
 have hl:∀ b ∈ [m.size],b < m1.size:=by simp [m1]
 have hsl:=hs.len
 have hrl:=hr.len
 clear_value m2
 clear_value m1
 refine forSI (n:=l.length) (by omega) (fun k s m'=>Ext m1 m'/\Own m1 m' ty_int 1 s ((words f (l.take k)).map Ce.i)) ⟨h2,by simpa [words] using ho⟩ ?_
 rintro k s m3 I μ hk ⟨hx,ho2⟩ next
 have hx3:=hx1.trans hx
 refine ⟨fun h=>?_,fun h=>?_⟩
 ·simp only [decide_eq_true_eq] at h
  obtain ⟨y,hy⟩:=q00 (l:=l) (k:=k) (by omega)
  have hyr:=hin y (q05 hy)
  refine ⟨by omega,by omega,y,by simpa using hx3.gcell (hs.at' hy),hyr.1,by omega,at' f.regs y,by simpa using hx3.gcell (hr.atI hyr.1 hyr.2),?_⟩
  intro m4
  refine q57 ho2 hx (by simp [words]; omega) fun q m5 q1 q2=>⟨Ext.sam2 (hx.pushed _) q2 hl,next (by omega) _ _ ⟨q2,?_⟩⟩
  rw [q06 hy]
  simpa [words] using q1
 ·simp only [decide_eq_false_iff_not] at h
  rw [q0b (by omega)] at ho2
  exact ⟨s,rfl,ho2.base hx1.size,hx3⟩
end
section
theorem qnd {m:Mem} {f:Frame} {r o e:Sl} (hr:q03 m r f.regs) (ho:q03 m o f.own) {s:Sl} {l:List Int} (hs:q03 m s l) (hin:∀ y ∈ l,0<=y/\y < f.regs.length) (hlen:f.regs.length=f.own.length) (hsm:f.own.length<=1000000) (hsl:l.length<=1000000)
  (hb:∀ w ∈ f.own,-1000000000<=w/\w<=1000000000):GivesI q69 [fv f r o e,Sl.v s] m (q0c f.regs f.own l):=by
 apply qhd
 simp -zeta only [q09,q0a,rI,rS,rB,cI,cB,cS,dI,dB,dS,gk,rg]
 intro m1
 have hx1:Ext m m1:=(Ext.refl m).pushed _
 have hl:∀ b ∈ [m.size],b < m1.size:=by simp [m1]
 have hsl':=hs.len
 have hrl:=hr.len
 clear_value m1
 refine (q2c (ho.ext hx1) (by omega)).thenS (by omega) hl fun q m2 o2 i2 h2=>⟨q,rfl,?_⟩
 have hql:=i2.len
 have app:∀ (l1 l2 own:List Int),q0c f.regs own (l1 ++ l2)=q0c f.regs (q0c f.regs own l1) l2:=by
  intro l1
  induction l1 with
  | nil=>intro l2 own; rfl
  | cons y l1 ih=>intro l2 own; simp only [List.cons_append,q0c,ih]
 have lo:∀ (l1 own:List Int) (n:Int),(∀ w ∈ own,n<=w)->∀ w ∈ q0c f.regs own l1,n - l1.length<=w:=by
  intro l1
  induction l1 with
  | nil=>intro own n h w hw; have:=h w hw; simp; omega
  | cons y l1 ih =>
   intro own n h w hw
   simp only [q0c] at hw
   have:=ih _ (n - 1) (fun v hv=>by
    split at hv
    ·rcases Classical.em (y.toNat < own.length) with h1 | h1
     ·rcases q5u hv with hv | hv
      ·have:=h _ (List.mem_of_getElem? (i:=y.toNat) (a:=at' own y) (by obtain ⟨z,hz⟩:=q00 h1; rw [at_of' hz]; exact hz)); omega
      ·have:=h v hv; omega
     ·have e1:setI own y (at' own y - 1)=own:=by unfold setI; rw [List.set_eq_of_length_le (by omega)]
      rw [e1] at hv
      have:=h v hv; omega
    ·have:=h v hv; omega) w hw
   simp only [List.length_cons]; omega
 refine forI (n:=l.length) (by omega) (fun k m'=>Ext m1 m'/\Own m1 m' ty_int 1 q ((q0c f.regs f.own (l.take k)).map Ce.i)) ⟨h2,o2⟩ ?_
 rintro k m3 I μ hk ⟨hx,ho3⟩ next
 have hx3:=hx1.trans hx
 refine ⟨fun h=>?_,fun h=>?_⟩
 ·simp only [decide_eq_true_eq] at h
  obtain ⟨y,hy⟩:=q00 (l:=l) (k:=k) (by omega)
  have hyr:=hin y (q05 hy)
  have hlenT:=q3d f.regs (l.take k) f.own
  refine ⟨by omega,by omega,y,by simpa using hx3.gcell (hs.at' hy),hyr.1,by omega,at' f.regs y,by simpa using hx3.gcell (hr.atI hyr.1 hyr.2),?_⟩
  refine (q1b _ _).thenS hx hl fun b m4 hb4 h4 h42=>⟨b,rfl,fun hbt=>?_,fun hbf=>?_⟩
  ·have hx4:=hx1.trans h42
   have ho4:=ho3.ext h4
   have i4:q03 m4 q (q0c f.regs f.own (l.take k)):=q03.ofOwn ho4 (by omega)
   refine ⟨by omega,by omega,y,by simpa using hx4.gcell (hs.at' hy),by omega,by omega,y,by simpa using hx4.gcell (hs.at' hy),hyr.1,by omega,at' (q0c f.regs f.own (l.take k)) y,i4.atI hyr.1 (by omega),hyr.1,by omega,?_⟩
   have hlo:=lo (l.take k) f.own (-1000000000) (fun w hw=>(hb w hw).1) _ (q18 (l:=q0c f.regs f.own (l.take k)) hyr.1 (by omega))
   have hhi:at' (q0c f.regs f.own (l.take k)) y<=1000000000:=by
    obtain ⟨q',hq',hle⟩:=q40 (l.take k) f.own y.toNat _ (at_get (l:=q0c f.regs f.own (l.take k)) hyr.1 (by omega))
    have:=(hb q' (q05 hq')).2; omega
   have hlk:(l.take k).length<=1000000:=by simp; omega
   rw [q07 (by omega) (by omega)]
   rcases ho4.at' with hnil | ⟨bb,c,tail,e1,e2,e3,e4,e5⟩
   ·rw [hnil] at hql; simp at hql; omega
   ·have hoff:q.off=0:=by rw [e1]; rfl
    have hblk:q.blk=bb:=by rw [e1]; rfl
    rw [hoff,hblk]
    have hidx:0+y.toNat*1=y.toNat:=by omega
    rw [hidx]
    have hlt:y.toNat < ((q0c f.regs f.own (l.take k)).map Ce.i).length:=by simp; omega
    refine ⟨e3.wrOk (by simp only [List.length_append]; omega),?_⟩
    intro m5
    have q1:Ext m1 m5:=h42.scells e2 _ _
    refine ⟨Ext.sam2 h42 q1 hl,next (by omega) _ ⟨q1,?_⟩⟩
    rw [q06 hy,app]
    simp only [q0c,if_pos (hb4.1 hbt)]
    refine ⟨by rw [List.length_map,q2z,← List.length_map (f:=Ce.i)]; exact ho4.len,Or.inr ⟨bb,c,tail,e1,e2,?_,?_,e5⟩⟩
    ·have:=Blk.scells (m:=m4) (o:=y.toNat) (r:=[.i (at' (q0c f.regs f.own (l.take k)) y - 1)]) e3
     have e6:setL ((q0c f.regs f.own (l.take k)).map Ce.i ++ tail) y.toNat [.i (at' (q0c f.regs f.own (l.take k)) y - 1)]=(setI (q0c f.regs f.own (l.take k)) y (at' (q0c f.regs f.own (l.take k)) y - 1)).map Ce.i ++ tail:=by
      simp only [setL,setI,List.map_set]
      rw [List.set_append_left _ _ hlt]
     rw [e6] at this; exact this
    ·simp only [List.length_append,List.length_map,q2z] at e4 ⊢; exact e4
  ·refine next (by omega) _ ⟨h42,?_⟩
   rw [q06 hy,app]
   simp only [q0c,if_neg (fb hb4 hbf)]
   exact ho3.ext h4
 ·simp only [decide_eq_false_iff_not] at h
  rw [q0b (by omega)] at ho3
  exact ⟨q,rfl,ho3.base hx1.size,hx3⟩
theorem q1x {m:Mem} {mb:Nat} {d p out hp fr:Sl} {im:Image} {s:St} (V:RV m mb 2 d p out hp fr im s) {w:Int} (hw:1000<=w) {c:Cell} (hc:s.heap[ix w]?=some c) :
  q08 Tryz.prog q0z [vp mb 0,vi w] m fun v m'=>∃ f,v=.agg #[vi c.count,vi c.tag,Sl.v f]/\q03 m' f c.fields/\Ext m m':=by
 apply qcf (mb,0)
 simp -zeta only [q09,q0a,rI,rS,rB,cI,cB,cS,dI,dB,dS,gk,rg]
 intro m1
 have hx1:Ext m m1:=(Ext.refl m).pushed _
 have hh:=q0h.ext hx1 V.heap
 obtain ⟨f,hf,g0,g1,g2⟩:=hh.at' hc
 have hl:=hh.len
 have hlim:=hh.lim
 have hlt:=q04 hc
 unfold ix at hlt g0 g1 g2
 have e:w64 (w - 1000)=w - 1000:=q07 (by omega) (by omega)
 rw [e]
 refine ⟨hp,hx1.gcell V.heapc,by omega,by omega,c.count,g0,c.tag,g1,f,g2,?_⟩
 intro m2
 have hx2:Ext m m2:=hx1.scells (Nat.le_refl _) _ _
 obtain ⟨f',hf',k0,k1,k2⟩:=(q0h.ext hx2 V.heap).at' hc
 unfold ix at k2
 have hff:f'=f:=by
  have h1:=hx1.gcell (V.heapc)
  obtain ⟨f0,hf0,_,_,q2⟩:=V.heap.at' hc
  unfold ix at q2
  have e1:=hx1.gcell q2
  have e2:=hx2.gcell q2
  rw [g2] at e1
  rw [k2] at e2
  simp at e1 e2
  rw [Sl.v_inj] at e1 e2
  rw [e1,e2]
 subst hff
 exact ⟨f',rfl,hf',hx2⟩
theorem qc7 {m:Mem} {mb:Nat} {d p out hp fr:Sl} {im:Image} {s:St} (V:RV m mb 2 d p out hp fr im s) {e:Nat->Int} (hI:HInv s.heap e) {ws:Sl} {l:List Int} (hs:q03 m ws l) (hl:∀ w ∈ l,live s.heap w) (hsm:l.length<=1000000) :
  q0o Tryz.prog q3f [vp mb 0,Sl.v ws] m (q41 s.heap l):=by
 apply qav (mb,0)
 have hsl:=hs.len
 refine forI (n:=l.length) (by omega) (fun k m'=>Ext m m'/\∀ w ∈ l.take k,1000<=w->(q01 s.heap w).count+occ l (ix w)<=999999) ⟨Ext.refl _,by simp⟩ ?_
 rintro k m1 I μ hk ⟨hx,hn⟩ next
 refine ⟨fun h=>?_,fun h=>retT (q0w (by simp at h; omega) hn) hx⟩
 simp only [decide_eq_true_eq] at h
 obtain ⟨x,hx1⟩:=q00 (l:=l) (k:=k) (by omega)
 have hlx:=hl x (q05 hx1)
 have hpx:=ptr_ix hlx.1
 refine forSI (n:=l.length) (by omega) (fun j (many:Int) m'=>Ext m m'/\many=occ (l.take j) (ix x)) ⟨hx,by simp [occ]⟩ ?_
 rintro j many m2 I2 μ2 hj ⟨hx2,rfl⟩ next2
 refine ⟨fun h2=>?_,fun h2=>?_⟩
 ·simp only [decide_eq_true_eq] at h2
  obtain ⟨y,hy⟩:=q00 (l:=l) (k:=j) (by omega)
  have hle:=q3k (l.take j) (ix x)
  have hge:=occ_nn (l.take j) (ix x)
  have hlt:(l.take j).length<=1000000:=by simp; omega
  have hoc:occ (l.take (j+1)) (ix x)=occ (l.take j) (ix x)+if y=x then 1 else 0:=by
   rw [q06 hy,q4g]
   simp only [occ,hpx]; omega
  refine ⟨by omega,by omega,y,by simpa using hx2.gcell (hs.at' hy),by omega,by omega,x,by simpa using hx2.gcell (hs.at' hx1),fun h3=>next2 (by omega) _ _ ⟨hx2,?_⟩,fun h3=>next2 (by omega) _ _ ⟨hx2,?_⟩⟩
  ·simp at h3; rw [hoc,if_pos h3]; exact q07 (by omega) (by omega)
  ·simp at h3; rw [hoc,if_neg h3]; omega
 ·simp only [decide_eq_false_iff_not] at h2
  rw [q0b (by omega)]
  have hle:=q3k l (ix x)
  have hge:=occ_nn l (ix x)
  obtain ⟨hc,hp1⟩:=q0i hlx
  have hmx:=(hI.cell _ (q05 hc)).hi
  refine ⟨by omega,by omega,x,by simpa using hx2.gcell (hs.at' hx1),?_⟩
  refine (q1x (V.ext hx2) hlx.1 hc).mono ?_
  rintro _ m3 ⟨f,rfl,hf,h3⟩
  have e1:w64 ((q01 s.heap x).count+occ l (ix x))=(q01 s.heap x).count+occ l (ix x):=q07 (by omega) (by omega)
  refine ⟨_,_,_,rfl,fun h4=>retF (fun hF=>?_) (hx2.trans h3),fun h4=>next (by omega) _ ⟨hx2.trans h3,q0f hx1 hn fun _=>?_⟩⟩
  ·have:=hF x (q05 hx1) hlx.1
   rw [e1] at h4; simp at h4; omega
  ·rw [e1] at h4; simp at h4; omega
theorem qa2 {h:List Cell} {l:List Int}:q41 h (ptrs l) ↔ q41 h l:=by
 unfold q41
 constructor
 ·intro hf w hw hp
  have:=hf w (q48.2 ⟨hw,hp⟩) hp
  rwa [qaj] at this
 ·intro hf w hw hp
  rw [qaj]; exact hf w (q48.1 hw).1 hp
theorem cut1 {m:Mem} {s:Sl} {l:List Int} (h:q03 m s l) (h1:1<=l.length):q03 m (Sl.cut s 1 s.len 1) (l.drop 1):=by
 have hl:=h.len
 have hc:=h.cap
 have hlim:=h.lim
 cases s with
 | nil=>simp at hl; omega
 | emp b o sp=>simp at hl; omega
 | mk b o len cap =>
  simp at hl hc hlim
  refine ⟨by simp [Sl.cut]; omega,by simp [Sl.cut]; omega,by simp [Sl.cut]; omega,fun k x hk=>?_⟩
  rw [List.getElem?_drop] at hk
  have hlt:=q04 hk
  obtain ⟨cs,hcs,hrow⟩:=h.row (1+k) x hk
  refine ⟨cs,hcs,fun i c hic=>?_⟩
  have:=hrow i c hic
  simp only [Sl.cut,Sl.blk_mk,Sl.off_mk] at this ⊢
  rw [if_neg (by omega)]
  rw [← this]; congr 1; omega
theorem FrameOk.regRange {im:Image} {f:Frame} (h:FrameOk im f) {r:Int} (h0:0<=r) (h1:r < f.regs.length) (hfit:∀ w ∈ f.regs,w<=9223372036854775807):-9223372036854775808<=at' f.regs r/\at' f.regs r<=9223372036854775807:=by
 have hm:=q18 (l:=f.regs) h0 h1
 refine ⟨?_,hfit _ hm⟩
 rcases h.reg _ hm with h2 | h2
 ·have:=h2.1; omega
 ·omega
theorem qo0 {m:Mem} {mb:Nat} {d p out hp fr:Sl} {im:Image} {s:St} (V:RV m mb 2 d p out hp fr im s) {e:Nat->Int} (hI:HInv s.heap e) {f:Frame} {r o h:Sl} (hr:q03 m r f.regs) (hh:q03 m h f.held) {x:Instr} {a j:Sl} (ha:q03 m a x.args)
  (hF:FrameOk im f) (hfit:∀ w ∈ f.regs,w<=9223372036854775807) (hin:∀ y ∈ x.args,0<=y/\y < f.regs.length) (hlen:1<=x.args.length/\x.args.length<=4) (hop:x.op=16 \/ x.op=17) :
  q0o Tryz.prog q51 [vp mb 0,fv f r o h,xv x a j] m (MayOpen s.heap f x):=by
 apply qbt (mb,0)
 simp -zeta only [q09,q0a,rI,rS,rB,cI,cB,cS,dI,dB,dS,gk,rg]
 intro m1 m2
 have hx2:Ext m m2:=((Ext.refl m).pushed _).pushed _
 have hl:∀ b ∈ [m1.size,m.size],b < m2.size:=by simp [m2,m1]; omega
 have hal:=ha.len
 have hrl:=hr.len
 have hhl:=hh.len
 have hac:=ha.cap
 clear_value m2
 have h0:0<=at' x.args 0/\at' x.args 0 < f.regs.length:=hin _ (q18 (by omega) (by omega))
 have h0h:at' x.args 0 < f.held.length:=by have:=hF.lr; have:=hF.lh; omega
 have hrg:=hF.regRange h0.1 h0.2 hfit
 refine ⟨by omega,by omega,at' x.args 0,(ha.ext hx2).atI (by omega) (by omega),h0.1,by omega,at' f.regs (at' x.args 0),(hr.ext hx2).atI h0.1 h0.2,hp,hx2.gcell V.heapc,?_⟩
 unfold MayOpen
 simp only []
 generalize hwdef:at' f.regs (at' x.args 0)=w at *
 refine (q2v (q0h.ext hx2 V.heap) hrg).thenS (Ext.refl _) hl fun b m3 hb h3 _=>⟨b,rfl,fun hbt=>retF (fun hM=>nb hb hbt hM.1) (hx2.trans h3),fun hbf=>?_⟩
 have hlive:=yb hb hbf
 obtain ⟨hc,hpos⟩:=q0i hlive
 have hfl3:=(hI.cell _ (q05 hc)).fl
 have hx3:=hx2.trans h3
 refine ((q1x (V.ext hx3) hlive.1 hc)).thenS h3 hl ?_
 rintro _ m4 ⟨fl,rfl,hfl,h4⟩
 have h24:=h3.trans h4
 refine ⟨h4,_,_,_,rfl,(q6k hfl (by omega)).thenS (by have:=q53 (q01 s.heap w).fields; omega) (fun b hb=>h24.lt (hl b hb)) fun ps m5 o5 i5 h5=>⟨ps,rfl,by omega,by omega,by omega,?_⟩⟩
 have h25:=h24.trans h5
 have hx5:=hx2.trans h25
 have e1:(Int.toNat (1:Int))=1:=rfl
 have e2:(Int.toNat (a.len:Int))=a.len:=by omega
 rw [e1,e2]
 refine (q9e (hr.ext hx5) (cut1 (ha.ext hx5) (by omega)) (fun y hy=>hin y (List.mem_of_mem_drop hy)) (by simp; omega)).thenS (by simp [words]; omega) (fun b hb=>h25.lt (hl b hb)) fun qs m6 o6 i6 h6=>⟨qs,rfl,?_⟩
 have h26:=h25.trans h6
 refine (qnc (i5.ext h6) i6).thenS h26 hl fun b2 m7 hb2 h7 h27=>⟨b2,rfl,fun hb2t=>?_,fun hb2f=>retF (fun hM=>fb hb2 hb2f hM.2.1) (hx2.trans h27)⟩
 have hsame:=hb2.1 hb2t
 refine (q1x (V.ext (hx2.trans h27)) hlive.1 hc).thenS h27 hl ?_
 rintro _ m8 ⟨fl8,rfl,hfl8,h8⟩
 have h28:=h27.trans h8
 refine ⟨h8,_,_,_,rfl,fun h1=>?_,fun h1=>?_⟩
 ·simp at h1
  have hx8:=hx2.trans h28
  refine ⟨fun h16=>retT ⟨hlive,hsame,Or.inl h1,fun e=>by simp at h16; omega⟩ hx8,fun h16=>⟨by omega,by omega,at' x.args 0,(ha.ext hx8).atI (by omega) (by omega),h0.1,by omega,at' f.held (at' x.args 0),(hh.ext hx8).atI h0.1 h0h,retB ?_ hx8⟩⟩
  simp only [beq_iff_eq,beq_eq_false_iff_ne,ne_eq] at h16 ⊢
  exact ⟨fun hz=>⟨hlive,hsame,Or.inl h1,fun _=>hz⟩,fun hM=>hM.2.2.2 (by omega)⟩
 ·simp at h1
  refine (qc7 (V.ext (hx2.trans h28)) hI (i5.ext ((h6.trans h7).trans h8)) (fun v hv=>hI.field (q05 hc) (q48.1 hv).1 (q48.1 hv).2) (by have:=q53 (q01 s.heap w).fields; omega)).thenS h28 hl fun b3 m9 hb3 h9 h29=>⟨b3,rfl,fun hb3t=>?_,fun hb3f=>retF (fun hM=>?_) (hx2.trans h29)⟩
  ·have hcf:=qa2.1 (hb3.1 hb3t)
   have hx9:=hx2.trans h29
   refine ⟨fun h16=>retT ⟨hlive,hsame,Or.inr hcf,fun e=>by simp at h16; omega⟩ hx9,fun h16=>⟨by omega,by omega,at' x.args 0,(ha.ext hx9).atI (by omega) (by omega),h0.1,by omega,at' f.held (at' x.args 0),(hh.ext hx9).atI h0.1 h0h,retB ?_ hx9⟩⟩
   simp only [beq_iff_eq,beq_eq_false_iff_ne,ne_eq] at h16 ⊢
   exact ⟨fun hz=>⟨hlive,hsame,Or.inr hcf,fun _=>hz⟩,fun hM=>hM.2.2.2 (by omega)⟩
  ·rcases hM.2.2.1 with h2 | h2
   ·exact h1 h2
   ·exact fb hb3 hb3f (qa2.2 h2)
theorem qmb {m:Mem} {mb:Nat} {d p out hp fr:Sl} {im:Image} {s:St} (V:RV m mb 2 d p out hp fr im s) (him:ImageOk im) {e:Nat->Int} (hI:HInv s.heap e) {w:Int} (hw:-9223372036854775808<=w/\w<=9223372036854775807) :
  q0o Tryz.prog q4q [vp mb 0,vi w] m (MayApply im s.heap w):=by
 apply qbe (mb,0)
 simp -zeta only [q09,q0a,rI,rS,rB,cI,cB,cS,dI,dB,dS,gk,rg]
 refine ⟨hp,V.heapc,(q2v V.heap hw).then fun b m1 hb h1=>⟨b,rfl,fun hbt=>retF (fun hM=>nb hb hbt hM.1) h1,fun hbf=>?_⟩⟩
 have hlive:=yb hb hbf
 obtain ⟨hc,hpos⟩:=q0i hlive
 have hCO:=hI.cell _ (q05 hc)
 have htag:=(hCO.alive hpos).2
 refine (q1x (V.ext h1) hlive.1 hc).mono ?_
 rintro _ m2 ⟨fl,rfl,hfl,h2⟩
 refine ⟨_,_,_,rfl,?_⟩
 intro m3 m4
 have hx2:=h1.trans h2
 have h24:Ext m2 m4:=((Ext.refl m2).pushed _).scells (Nat.le_refl _) _ _
 have s4:m4.size=m2.size+1:=by simp [m4,m3,q02]
 have hB:gcell m4 m2.size 1=some (vi (q01 s.heap w).tag):=(Blk.scells (m:=m3) (o:=0) (r:=[.i (q01 s.heap w).count,.i (q01 s.heap w).tag,.s fl]) (Blk.push m2 _ _)).get 1
 have hl:∀ b ∈ [m2.size],b < m4.size:=by simp [s4]
 clear_value m4
 have hx4:=hx2.trans h24
 have hV4:=V.ext hx4
 have hpl:=V.image.procs.len
 have hp4:=him.sigs.len
 have h12:(q17 im.decls).length<=12:=by
  have:=fc_12 him.sigs.types im.decls.length
  rw [fc_all _ _ (Nat.le_refl _)] at this; exact this
 refine ⟨d,hV4.decls,(q7z hV4.image.decls him.sigs.types).thenS (Ext.refl _) hl fun m5 h5 _=>⟨_,rfl,h5.keepG hB,p,(V.ext (hx4.trans h5)).procs,?_⟩⟩
 have hx5:=hx4.trans h5
 have e1:w64 ((q01 s.heap w).tag - ((q17 im.decls).length:Int))=(q01 s.heap w).tag - q0j im:=q07 (by omega) (by omega)
 have e2:w64 ((p.len:Int) - 1)=(p.len:Int) - 1:=q07 (by omega) (by omega)
 rw [e1,e2]
 refine (q0e _ _ _ _).thenS h5 hl fun b2 m6 hb2 h6 h46=>⟨b2,rfl,fun hb2t=>?_,fun hb2f=>retF (fun hM=>fb hb2 hb2f ⟨hM.2.1,by have:=hM.2.2.1; omega⟩) (hx4.trans h46)⟩
 have hrg:=hb2.1 hb2t
 have hx6:=hx4.trans h46
 have hV6:=V.ext hx6
 obtain ⟨q,hq⟩:=q00 (l:=im.procs) (k:=((q01 s.heap w).tag - q0j im).toNat) (by omega)
 have hqe:q0y im ((q01 s.heap w).tag - q0j im)=q:=by simp [q0y,hq]
 obtain ⟨a',l',c',ha',hl',hc',g0,g1,_⟩:=hV6.image.procs.at' hq
 have hal:=ha'.len
 have hll:=hl'.len
 have hfll:=hfl.len
 have hfl3:=hCO.fl
 have e3:w64 ((fl.len:Int)+1)=(fl.len:Int)+1:=q07 (by omega) (by omega)
 rw [e3]
 unfold MayApply
 rw [hqe]
 refine ⟨p,hV6.procs,by omega,by omega,a',g0,fun h7=>⟨p,hV6.procs,by omega,by omega,l',g1,fun h8=>⟨fun h9=>?_,fun h9=>?_⟩,fun h8=>retF (fun hM=>?_) hx6⟩,fun h7=>retF (fun hM=>?_) hx6⟩
 ·simp at h7 h8 h9
  exact retT ⟨hlive,hrg.1,by omega,by omega,by omega,Or.inl h9⟩ hx6
 ·simp at h7 h8 h9
  refine (q6k (hfl.ext (h24.trans h46)) (by omega)).thenS (by have:=q53 (q01 s.heap w).fields; omega) (fun b hb=>h46.lt (hl b hb)) fun ps m7 o7 i7 h10=>⟨ps,rfl,?_⟩
  have h47:=h46.trans h10
  refine (qc7 (V.ext (hx4.trans h47)) hI i7 (fun v hv=>hI.field (q05 hc) (q48.1 hv).1 (q48.1 hv).2) (by have:=q53 (q01 s.heap w).fields; omega)).thenS h47 hl fun b3 m8 hb3 h11 h48=>⟨b3,rfl,retB ?_ (hx4.trans h48)⟩
  rw [hb3,qa2]
  refine ⟨fun hcf=>⟨hlive,hrg.1,by omega,by omega,by omega,Or.inr hcf⟩,fun hM=>?_⟩
  rcases hM.2.2.2.2.2 with h2 | h2
  ·exact absurd h2 h9
  ·exact h2
 ·have:=hM.2.2.2.2.1; simp at h8; omega
 ·have:=hM.2.2.2.1; simp at h7; omega
theorem qmc {m:Mem} {mb:Nat} {d p out hp fr:Sl} {im:Image} {s:St} (V:RV m mb 2 d p out hp fr im s) {f:Frame} {r o h:Sl} (hh:q03 m h f.held) {x:Instr} {a j:Sl} (ha:q03 m a x.args) (hinto:0<=x.into/\x.into<=f.held.length) (hlim:f.held.length<=1000000)
  (hheld:∀ w ∈ f.held,w ≠ 0->1000<=w/\∃ c,s.heap[ix w]?=some c) :
  q0o Tryz.prog q4u [vp mb 0,fv f r o h,xv x a j] m (MayPlace s.heap f x):=by
 apply qb6 (mb,0)
 simp -zeta only [q09,q0a,rI,rS,rB,cI,cB,cS,dI,dB,dS,gk,rg]
 intro m1 m2
 have hx2:Ext m m2:=((Ext.refl m).pushed _).pushed _
 have hl:∀ b ∈ [m1.size,m.size],b < m2.size:=by simp [m2,m1]; omega
 have hB:gcell m2 m1.size 4=some (Sl.v a):=(Blk.push m1 _ _).get 4
 have hal:=ha.len
 have hhl:=hh.len
 clear_value m2
 unfold MayPlace
 refine ⟨fun h0=>retT (fun hne=>absurd (by simpa using h0) hne) hx2,fun h0=>?_⟩
 simp at h0
 have e:w64 (x.into - 1)=x.into - 1:=q07 (by omega) (by omega)
 rw [e]
 have hg:=(hh.ext hx2).atI (i:=x.into - 1) (by omega) (by omega)
 refine ⟨by omega,by omega,at' f.held (x.into - 1),hg,fun h1=>retT (fun _ hne=>absurd (by simpa using h1) hne) hx2,fun h1=>?_⟩
 simp at h1
 obtain ⟨hw,c,hc⟩:=hheld _ (q18 (l:=f.held) (i:=x.into - 1) (by omega) (by omega)) h1
 refine ⟨by omega,by omega,at' f.held (x.into - 1),hg,(q1x (V.ext hx2) hw hc).thenS (Ext.refl _) hl ?_⟩
 rintro _ m3 ⟨fl,rfl,hfl,h3⟩
 have hfll:=hfl.len
 have hce:q01 s.heap (at' f.held (x.into - 1))=c:=by simp [q01,hc]
 refine ⟨h3,_,_,_,rfl,h3.keepG hB,retB ?_ (hx2.trans h3)⟩
 rw [hce]
 simp
 exact ⟨fun h2 _ _=>by omega,fun h2=>by have:=h2 h0 h1; omega⟩
theorem q7w (im:Image) (x:Instr):∀ (l r:List Int) (k:Nat),q19 im x k (l ++ r)=q19 im x k l ++ q19 im x (k+l.length) r
 | [],r,k=>by simp [q19]
 | a :: l,r,k=>by
  have:=q7w im x l r (k+1)
  simp only [List.cons_append,q19,this,List.length_cons]
  have e:k+(l.length+1)=k+1+l.length:=by omega
  rw [e]
  split <;> simp
theorem qd6 {m:Mem} {mb:Nat} {d p out hp fr:Sl} {im:Image} {s:St} (V:RV m mb 2 d p out hp fr im s) {f:Frame} {r o h:Sl} (hr:q03 m r f.regs) {x:Instr} {a j:Sl} (ha:q03 m a x.args) (hF:FrameOk im f) (hfit:∀ w ∈ f.regs,w<=9223372036854775807)
  (hin:∀ y ∈ x.args,0<=y/\y < f.regs.length) (hc:CallOk im x) (hop:x.op=9 \/ x.op=24) :
  q0o Tryz.prog q3q [vp mb 0,fv f r o h,xv x a j] m (LentLive im s.heap f x):=by
 apply qb3 (mb,0)
 simp -zeta only [q09,q0a,rI,rS,rB,cI,cB,cS,dI,dB,dS,gk,rg]
 intro m1 m2
 have hx2:Ext m m2:=((Ext.refl m).pushed _).pushed _
 have hl:∀ b ∈ [m1.size,m.size],b < m2.size:=by simp [m2,m1]; omega
 have hal:=ha.len
 have hrl:=hr.len
 clear_value m2
 refine forI (n:=x.args.length) (hal ▸ ha.lim) (fun k m'=>Ext m2 m'/\∀ y ∈ q19 im x 0 (x.args.take k),1000<=at' f.regs y->live s.heap (at' f.regs y)) ⟨Ext.refl _,by simp [q19]⟩ ?_
 rintro k m3 I μ hk ⟨hx,hn⟩ next
 have hx3:=hx2.trans hx
 refine ⟨fun h=>?_,fun h=>retT (by simp at h; rwa [q0b (by omega)] at hn) hx3⟩
 simp only [decide_eq_true_eq] at h
 obtain ⟨y,hy⟩:=q00 (l:=x.args) (k:=k) (by omega)
 have hyr:=hin y (q05 hy)
 have hV3:=V.ext hx3
 have hsplit:q19 im x 0 (x.args.take (k+1))=q19 im x 0 (x.args.take k) ++ q19 im x k [y]:=by
  rw [q06 hy,q7w]
  congr 2
  simp; omega
 have hkeep:(lentIn im x k=true->1000<=at' f.regs y->live s.heap (at' f.regs y))->∀ z ∈ q19 im x 0 (x.args.take (k+1)),1000<=at' f.regs z->live s.heap (at' f.regs z):=fun hh z hz=>by
  rw [hsplit] at hz
  rcases List.mem_append.1 hz with hz | hz
  ·exact hn z hz
  ·simp only [q19] at hz
   split at hz
   ·rename_i hli; simp at hz; subst hz; exact hh hli
   ·simp at hz
 have hmem:lentIn im x k=true->y ∈ q19 im x 0 x.args:=fun hli=>by
  have e1:x.args=x.args.take (k+1) ++ x.args.drop (k+1):=(List.take_append_drop _ _).symm
  rw [e1,q7w,hsplit]
  refine List.mem_append_left _ (List.mem_append_right _ ?_)
  simp only [q19]; rw [if_pos hli]; simp
 refine ⟨by omega,by omega,y,by simpa using hx3.gcell (ha.at' hy),hyr.1,by omega,at' f.regs y,by simpa using hx3.gcell (hr.atI hyr.1 hyr.2),d,hV3.decls,p,hV3.procs,?_⟩
 refine (q9d hV3.image hc a j k).thenS hx hl fun b m4 hb h4 h42=>⟨b,rfl,fun hbt=>?_,fun hbf=>next (by omega) _ ⟨h42,hkeep fun hli=>absurd ⟨hop,hli⟩ (fb hb hbf)⟩⟩
 have hli:=(hb.1 hbt).2
 refine (q1b _ _).thenS h42 hl fun b2 m5 hb2 h5 h52=>⟨b2,rfl,fun hb2t=>?_,fun hb2f=>next (by omega) _ ⟨h52,hkeep fun _ hp=>absurd hp (fb hb2 hb2f)⟩⟩
 have hx5:=hx2.trans h52
 refine ⟨hp,(V.ext hx5).heapc,(q2v (q0h.ext hx5 V.heap) (hF.regRange hyr.1 hyr.2 hfit)).thenS h52 hl fun b3 m6 hb3 h6 h62=>⟨b3,rfl,fun h7=>retF (fun hM=>nb hb3 h7 (hM y (hmem hli) (hb2.1 hb2t))) (hx2.trans h62),fun h7=>next (by omega) _ ⟨h62,hkeep fun _ _=>yb hb3 h7⟩⟩⟩
end
end Go.Proofs.YtpggcodlaajceaaGreat
