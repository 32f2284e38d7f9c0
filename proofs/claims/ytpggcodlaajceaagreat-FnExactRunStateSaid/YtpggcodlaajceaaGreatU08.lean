/- Part of a proof, joined by a program: Ms4 Ms5 Ms6 Ms7 Ms8 Ms9. -/
import Derived.Test.YtpggcodlaajceaaGreatU07
set_option linter.unusedVariables false
set_option linter.unusedSimpArgs false
namespace Go.Proofs.YtpggcodlaajceaaGreat
open Go.Vc
section
structure ST (m0:Mem) (ro:Nat->Nat) (m:Mem) (mb e:Nat) (bx:List Ce) (out hp fr:Sl) (lo:List Int) (lh:List Cell) (fs:List Frame) (f:Frame) (r o h:Sl) (css:List (List Ce)):Prop where
 lay:Lay m0 ro m mb e bx out hp fr lo lh (fs ++ [f])
 top:Top ro m fr fs f r o h css
section
variable {m0:Mem} {ro ro':Nat->Nat} {m m':Mem} {mb e:Nat} {bx:List Ce} {out hp fr:Sl} {lo:List Int} {lh:List Cell} {fs:List Frame} {f:Frame} {r o h:Sl} {css:List (List Ce)}
theorem ST.ext (S:ST m0 ro m mb e bx out hp fr lo lh fs f r o h css) (hx:Ext m m'):ST m0 ro m' mb e bx out hp fr lo lh fs f r o h css/\To ro m ro m' :=
 ⟨⟨(S.lay.ext hx).1,S.top.ext S.lay.new hx⟩,(S.lay.ext hx).2⟩
theorem ST.setReg (S:ST m0 ro m mb e bx out hp fr lo lh fs f r o h css) {i:Int} (h0:0<=i) (h1:i < f.regs.length) (v:Int):ST m0 ro (scells m r.blk (r.off+i.toNat*1) [.i v]) mb e bx out hp fr lo lh fs { f with regs:=setI f.regs i v } r o h css/\To ro m ro (scells m r.blk (r.off+i.toNat*1) [.i v]):=by
 obtain ⟨h2,h3⟩:=S.top.setReg S.lay.new h0 h1 v
 obtain ⟨h4,h5⟩:=S.lay.setFrames h3 h2.frm
 exact ⟨⟨h4,h2⟩,h5⟩
theorem ST.setOwn (S:ST m0 ro m mb e bx out hp fr lo lh fs f r o h css) {i:Int} (h0:0<=i) (h1:i < f.own.length) (v:Int):ST m0 ro (scells m o.blk (o.off+i.toNat*1) [.i v]) mb e bx out hp fr lo lh fs { f with own:=setI f.own i v } r o h css/\To ro m ro (scells m o.blk (o.off+i.toNat*1) [.i v]):=by
 obtain ⟨h2,h3⟩:=S.top.setOwn S.lay.new h0 h1 v
 obtain ⟨h4,h5⟩:=S.lay.setFrames h3 h2.frm
 exact ⟨⟨h4,h2⟩,h5⟩
theorem ST.setHeld (S:ST m0 ro m mb e bx out hp fr lo lh fs f r o h css) {i:Int} (h0:0<=i) (h1:i < f.held.length) (v:Int):ST m0 ro (scells m h.blk (h.off+i.toNat*1) [.i v]) mb e bx out hp fr lo lh fs { f with held:=setI f.held i v } r o h css/\To ro m ro (scells m h.blk (h.off+i.toNat*1) [.i v]):=by
 obtain ⟨h2,h3⟩:=S.top.setHeld S.lay.new h0 h1 v
 obtain ⟨h4,h5⟩:=S.lay.setFrames h3 h2.frm
 exact ⟨⟨h4,h2⟩,h5⟩
theorem ST.setPc (S:ST m0 ro m mb e bx out hp fr lo lh fs f r o h css) (v:Int):ST m0 ro (scells m fr.blk (fr.off+fs.length*6+1) [.i v]) mb e bx out hp fr lo lh fs { f with pc:=v } r o h css/\To ro m ro (scells m fr.blk (fr.off+fs.length*6+1) [.i v]):=by
 obtain ⟨h2,h3⟩:=S.top.setPc S.lay.new v
 obtain ⟨h4,h5⟩:=S.lay.setFrames h3 h2.frm
 exact ⟨⟨h4,h2⟩,h5⟩
theorem ST.setBox (S:ST m0 ro m mb e bx out hp fr lo lh fs f r o h css) (i:Nat) (cs:List Ce):ST m0 ro (scells m mb i cs) mb e (setL bx i cs) out hp fr lo lh fs f r o h css/\To ro m ro (scells m mb i cs):=by
 obtain ⟨h2,h3⟩:=S.lay.setBox i cs
 exact ⟨⟨h2,S.top.chg (Chg.scells (p:=fun k=>k=1) S.lay.new S.lay.rob i cs) fun k hk=>by omega⟩,h3⟩
theorem ST.setHeap (S:ST m0 ro m mb e bx out hp fr lo lh fs f r o h css) (hc:HC ro m ro' m') {hp':Sl} {lh':List Cell} (hh:q0u m0.size ro' m' hp' lh'):ST m0 ro' m' mb e bx out hp' fr lo lh' fs f r o h css/\To ro m ro' m':=by
 obtain ⟨h2,h3⟩:=S.lay.setHeap hc hh
 exact ⟨⟨h2,S.top.chg hc fun k hk=>by omega⟩,h3⟩
theorem ST.setOut (S:ST m0 ro m mb e bx out hp fr lo lh fs f r o h css) (hc:Chg (fun k=>k=2) ro m ro' m') {out':Sl} {lo':List Int} (hh:Arr ro' m' ty_int 1 2 out' (lo'.map Ce.i)):ST m0 ro' m' mb e bx out' hp fr lo' lh fs f r o h css/\To ro m ro' m':=by
 obtain ⟨h2,h3⟩:=S.lay.setOut hc hh
 exact ⟨⟨h2,S.top.chg hc fun k hk=>by omega⟩,h3⟩
end
theorem Chg.sam1 {ro ro':Nat->Nat} {m m':Mem} (h:To ro m ro' m') {b:Nat} (hb:b < m.size) (h0:ro b=0):Sam [b] m m':=h.sam (by simpa using ⟨hb,h0⟩)
abbrev SB (d p:Sl) (s:St) (out hp fr:Sl):List Ce:=[.s d,.s p,.i s.status,.i s.value,.i s.calls,.i s.most,.s out,.s hp,.s fr]
def SFin (m0:Mem) (ro:Nat->Nat) (m:Mem) (mb:Nat) (d p:Sl) (s:St) (m':Mem):Prop :=
 ∃ ro' out hp fr,Lay m0 ro' m' mb q0l (SB d p s out hp fr) out hp fr s.out s.heap s.frames/\To ro m ro' m'
theorem SFin.from {m0:Mem} {ro ro1:Nat->Nat} {m m1 m':Mem} {mb:Nat} {d p:Sl} {s:St} (h:SFin m0 ro1 m1 mb d p s m') (ht:To ro m ro1 m1):SFin m0 ro m mb d p s m' :=
 let ⟨ro',out,hp,fr,h1,h2⟩:=h
 ⟨ro',out,hp,fr,h1,ht.trans h2⟩
section
variable {m0:Mem} {ro:Nat->Nat} {m:Mem} {mb:Nat} {d p out hp fr:Sl} {s:St} {fs:List Frame} {f:Frame} {r o h:Sl} {css:List (List Ce)}
theorem q3h (S:ST m0 ro m mb q0l (SB d p s out hp fr) out hp fr s.out s.heap fs f r o h css) (hfs:fs.length<=100000) (v:Int) :
  q08 Tryz.prog q0s [vp mb 0,vi v] m fun w m'=>ST m0 ro m' mb q0l (SB d p s out hp fr) out hp fr s.out s.heap fs { f with pc:=v } r o h css/\To ro m ro m':=by
 apply q73 (mb,0)
 have hg:gcell m mb 8=some (Sl.v fr):=S.lay.box.get 8
 have hfl:=S.top.frLen
 have e:w64 ((fr.len:Int) - 1)=(fs.length:Int):=by rw [q07 (by omega) (by omega)]; omega
 have e2:Int.toNat (fs.length:Int)=fs.length:=by omega
 refine ⟨fr,hg,fr,hg,?_⟩
 rw [e,e2]
 exact ⟨by omega,by omega,S.top.wrPc,S.setPc v⟩
theorem qf0 (S:ST m0 ro m mb q0l (SB d p s out hp fr) out hp fr s.out s.heap fs f r o h css) (hfs:fs.length<=100000) {i:Int} (h0:0<=i) (h1:i < f.regs.length) (h2:i < f.own.length) (w:Int) (hpc:0<=f.pc/\f.pc<=100000) :
  q08 Tryz.prog q27 [vp mb 0,vi i,vi w] m fun _ m'=>ST m0 ro m' mb q0l (SB d p s out hp fr) out hp fr s.out s.heap fs (Frame.put { f with pc:=f.pc+1 } i w 0) r o h css/\To ro m ro m':=by
 apply qck (mb,0)
 simp -zeta only [q0a,q09,rI,rS,rB,cI,cB,cS,dI,dB,dS,gk,rg]
 have hg:gcell m mb 8=some (Sl.v fr):=S.lay.box.get 8
 have hfl:=S.top.frLen
 have e:w64 ((fr.len:Int) - 1)=(fs.length:Int):=by rw [q07 (by omega) (by omega)]; omega
 have e2:Int.toNat (fs.length:Int)=fs.length:=by omega
 obtain ⟨g0,g1,g2,g3,g4,g5⟩:=S.top.row
 have hrl:r.len=f.regs.length:=by have:=S.top.regs.len; simp at this; omega
 have hol:o.len=f.own.length:=by have:=S.top.own.len; simp at this; omega
 refine ⟨fr,hg,fr,hg,?_⟩
 rw [e,e2]
 refine ⟨by omega,by omega,_,g0,_,g1,_,g2,r,g3,o,g4,h,g5,?_⟩
 intro m1 m2
 have hx2:Ext m m2:=((Ext.refl m).pushed _).scells (Nat.le_refl _) _ _
 have s2:m2.size=m.size+1:=by simp [m2,m1,q02]
 have hb0:ro m.size=0:=S.lay.new _ (Nat.le_refl _)
 obtain ⟨S2,t2⟩:=S.ext hx2
 clear_value m2
 refine ⟨h0,by omega,S2.top.regs.wrI h0 h1,?_⟩
 intro m3
 obtain ⟨S3,t3⟩:=S2.setReg h0 h1 w
 have s3:m3.size=m2.size:=q02 _ _ _ _
 refine ⟨t3.sam1 (show m.size < m2.size by omega) hb0,h0,by omega,S3.top.own.wrI h0 h2,?_⟩
 intro m4
 obtain ⟨S4,t4⟩:=S3.setOwn h0 (by simpa using h2) 0
 have s4:m4.size=m3.size:=q02 _ _ _ _
 have e3:w64 (f.pc+1)=f.pc+1:=q07 (by omega) (by omega)
 rw [e3]
 refine ⟨t4.sam1 (show m.size < m3.size by omega) hb0,(q3h S4 hfs (f.pc+1)).mono ?_⟩
 rintro _ m5 ⟨S5,t5⟩
 exact ⟨t5.sam1 (show m.size < m4.size by omega) hb0,S5,((t2.trans t3).trans t4).trans t5⟩
theorem qa8 (S:ST m0 ro m mb q0l (SB d p s out hp fr) out hp fr s.out s.heap fs f r o h css) (hfs:fs.length<=100000) {i:Int} (h0:0<=i) (h1:i < f.regs.length) (h2:i < f.own.length) (w:Int) :
  q08 Tryz.prog q38 [vp mb 0,vi i,vi w] m fun _ m'=>ST m0 ro m' mb q0l (SB d p s out hp fr) out hp fr s.out s.heap fs (f.put i w (q1g w)) r o h css/\To ro m ro m':=by
 apply qcl (mb,0)
 simp -zeta only [q0a,q09,rI,rS,rB,cI,cB,cS,dI,dB,dS,gk,rg]
 have hg:gcell m mb 8=some (Sl.v fr):=S.lay.box.get 8
 have hfl:=S.top.frLen
 have e:w64 ((fr.len:Int) - 1)=(fs.length:Int):=by rw [q07 (by omega) (by omega)]; omega
 have e2:Int.toNat (fs.length:Int)=fs.length:=by omega
 obtain ⟨g0,g1,g2,g3,g4,g5⟩:=S.top.row
 have hrl:r.len=f.regs.length:=by have:=S.top.regs.len; simp at this; omega
 have hol:o.len=f.own.length:=by have:=S.top.own.len; simp at this; omega
 refine ⟨fr,hg,fr,hg,?_⟩
 rw [e,e2]
 refine ⟨by omega,by omega,_,g0,_,g1,_,g2,r,g3,o,g4,h,g5,?_⟩
 intro m1 m2
 have hx2:Ext m m2:=((Ext.refl m).pushed _).scells (Nat.le_refl _) _ _
 have s2:m2.size=m.size+1:=by simp [m2,m1,q02]
 have hb0:ro m.size=0:=S.lay.new _ (Nat.le_refl _)
 obtain ⟨S2,t2⟩:=S.ext hx2
 clear_value m2
 refine ⟨h0,by omega,S2.top.regs.wrI h0 h1,?_⟩
 intro m3
 obtain ⟨S3,t3⟩:=S2.setReg h0 h1 w
 have s3:m3.size=m2.size:=q02 _ _ _ _
 refine ⟨t3.sam1 (show m.size < m2.size by omega) hb0,h0,by omega,S3.top.own.wrI h0 h2,?_⟩
 intro m4
 obtain ⟨S4,t4⟩:=S3.setOwn h0 (by simpa using h2) 0
 have s4:m4.size=m3.size:=q02 _ _ _ _
 refine ⟨t4.sam1 (show m.size < m3.size by omega) hb0,(q1b _ _).mono ?_⟩
 rintro _ m5 ⟨b,rfl,hb,h45⟩
 obtain ⟨S5,t5⟩:=S4.ext h45
 have s5:=h45.size
 refine ⟨t5.sam1 (show m.size < m4.size by omega) hb0,b,rfl,fun hbt=>?_,fun hbf=>?_⟩
 ·refine ⟨h0,by omega,S5.top.own.wrI h0 (by simpa [q2y] using h2),?_⟩
  intro m6
  obtain ⟨S6,t6⟩:=S5.setOwn h0 (by simpa [q2y] using h2) 1
  refine ⟨t6.sam1 (show m.size < m5.size by omega) hb0,?_,(((t2.trans t3).trans t4).trans t5).trans t6⟩
  have e5:setI (setI f.own i 0) i 1=setI f.own i 1:=by simp [setI,List.set_set]
  have e6:q1g w=1:=by rw [q1g,if_pos (hb.1 hbt)]
  simp only [e5] at S6
  rw [e6]; exact S6
 ·refine ⟨?_,((t2.trans t3).trans t4).trans t5⟩
  have e6:q1g w=0:=by rw [q1g,if_neg (fb hb hbf)]
  rw [e6]; exact S5
theorem qb8:∀ (ws:List Int) (g:List Cell),(refer g ws).length=g.length
 | [],g=>rfl
 | w :: ws,g=>by rw [refer,qb8 ws]; simp [bump]
theorem qg9:∀ (ws:List Int) (g:List Cell) (w:Int),refer g (ws ++ [w])=bump (refer g ws) w
 | [],g,w=>rfl
 | v :: ws,g,w=>by rw [List.cons_append,refer,qg9 ws,refer]
theorem qeh:∀ (ws:List Int) (g:List Cell) (n:Int),(∀ c ∈ g,-10<=c.count/\c.count<=n)->∀ c ∈ refer g ws,-10<=c.count/\c.count<=n+ws.length
 | [],g,n,h,c,hc=>by have:=h c hc; simp; omega
 | w :: ws,g,n,h,c,hc=>by
  have:=qeh ws (bump g w) (n+1) (fun d hd=>by
   rcases q5z hd with rfl | ⟨b,_,hb⟩
   ·simp only [q01]
    cases hg:g[ix w]? with
    | none =>
     unfold bump at hd
     rw [List.set_eq_of_length_le (List.getElem?_eq_none_iff.1 hg)] at hd
     have:=h _ hd
     simp only [q01,hg] at this ⊢; omega
    | some x=>have:=h x (q05 hg); simp only [Option.getD_some]; omega
   ·have:=h d (q05 hb); omega) c hc
  simp only [List.length_cons]; omega
theorem qhb (L:Lay m0 ro m mb q0l (SB d p s out hp fr) out hp fr s.out s.heap fs) {ws:Sl} {l:List Int} (hw:q03 m ws l) (hr0:l ≠ []->ro ws.blk=0) (hin:∀ w ∈ l,1000<=w/\ix w < s.heap.length) (hcb:∀ c ∈ s.heap,-10<=c.count/\c.count<=999999) (hsm:l.length<=1000000) (hhl:s.heap.length<=2000000000) :
  q08 Tryz.prog q4g [vp mb 0,Sl.v ws] m fun _ m'=>q0u m0.size ro m' hp (refer s.heap l)/\Chg (fun k=>k=3) ro m ro m':=by
 apply qdp (mb,0)
 have hwl:=hw.len
 have hg:gcell m mb 7=some (Sl.v hp):=L.box.get 7
 refine forI (n:=l.length) (by omega) (fun k m'=>q0u m0.size ro m' hp (refer s.heap (l.take k))/\Chg (fun k=>k=3) ro m ro m') ⟨L.heap,Chg.refl _ L.new⟩ ?_
 rintro k m1 I μ hk ⟨hh,hc⟩ next
 refine ⟨fun h1=>?_,fun h1=>?_⟩
 ·simp only [decide_eq_true_eq] at h1
  obtain ⟨x,hx⟩:=q00 (l:=l) (k:=k) (by omega)
  obtain ⟨hx1,hx2⟩:=hin x (q05 hx)
  have hne:l ≠ []:=fun e=>by rw [e] at hx; simp at hx
  have hw1:q03 m1 ws l:=q2t hw fun _=>hc.keep _ (q2c hw hne) (by rw [hr0 hne]; decide)
  have hg1:gcell m1 mb 7=some (Sl.v hp):=by rw [q16 (hc.keep _ L.box.lt (by rw [L.rob]; decide))]; exact hg
  have hlen:=hh.len
  rw [qb8] at hlen
  obtain ⟨c,hcc⟩:=q00 (l:=refer s.heap (l.take k)) (k:=ix x) (by rw [qb8]; exact hx2)
  obtain ⟨f1,g0,_⟩:=hh.get hcc
  have hix:ix x=(x - 1000).toNat:=rfl
  have e4:w64 (x - 1000)=x - 1000:=q07 (by omega) (by omega)
  have hcb2:=qeh (l.take k) s.heap 999999 hcb c (q05 hcc)
  have hlk:((l.take k).length:Int)<=1000000:=by simp; omega
  have e5:w64 (c.count+1)=c.count+1:=q07 (by omega) (by omega)
  refine ⟨by omega,by omega,x,by simpa using hw1.at' hx,hp,hg1,hp,hg1,?_⟩
  rw [e4,← hix]
  refine ⟨by omega,by omega,c.count,g0,by omega,by omega,hh.wr (o:=0) (by rw [qb8]; exact hx2) (by decide),?_⟩
  rw [e5]
  obtain ⟨hh2,hc2⟩:=hh.setCount hc.new hcc (c.count+1)
  refine next (by omega) _ ⟨?_,hc.trans hc2⟩
  rw [q06 hx,qg9]
  have:q01 (refer s.heap (l.take k)) x=c:=by simp [q01,hcc]
  unfold bump
  rw [this]; exact hh2
 ·simp only [decide_eq_false_iff_not] at h1
  rw [q0b (by omega)] at hh
  exact ⟨hh,hc⟩
theorem qfo (L:Lay m0 ro m mb q0l (SB d p s out hp fr) out hp fr s.out s.heap fs) {w:Int} (hl:live s.heap w) {e:Nat->Int} (hI:HInv s.heap e) (hhl:s.heap.length<=2000000000) :
  q08 Tryz.prog q46 [vp mb 0,vi w] m fun v m'=>∃ b:Bool,v=vb b/\(b=true ↔ (q01 s.heap w).count=1)/\Chg (fun k=>k=3) ro m ro m'/\(b=true->q0u m0.size ro m' hp s.heap)/\(b=false->q0u m0.size ro m' hp (refer (less s.heap w) (ptrs (q01 s.heap w).fields))):=by
 apply qcj (mb,0)
 obtain ⟨hcc,hpos⟩:=q0i hl
 have hlt:=q04 hcc
 have hlen:=L.heap.len
 have hix:ix w=(w - 1000).toNat:=rfl
 have hl1:=hl.1
 have e4:w64 (w - 1000)=w - 1000:=q07 (by omega) (by omega)
 have hg:gcell m mb 7=some (Sl.v hp):=L.box.get 7
 have hmx:=(hI.cell _ (q05 hcc)).hi
 have e5:w64 ((q01 s.heap w).count - 1)=(q01 s.heap w).count - 1:=q07 (by omega) (by omega)
 obtain ⟨f0,g0,g1,g2,gf,gr⟩:=L.heap.get hcc
 rw [e4,← hix]
 refine ⟨hp,hg,by omega,by omega,_,g0,fun h1=>?_,fun h1=>?_⟩
 ·exact ⟨true,rfl,by simpa using h1,Chg.refl _ L.new,fun _=>L.heap,fun h=>by simp at h⟩
 ·simp only [beq_eq_false_iff_ne] at h1
  refine ⟨hp,hg,hp,hg,by omega,by omega,_,g0,by omega,by omega,L.heap.wr (o:=0) hlt (by decide),?_⟩
  rw [e5]
  intro m1
  obtain ⟨hh1,c1⟩:=L.heap.setCount L.new hcc ((q01 s.heap w).count - 1)
  obtain ⟨f1,k0,k1,k2,kf,kr⟩:=hh1.get (q1d hcc)
  obtain ⟨L1,t1⟩:=L.setHeap (c1.mono fun k hk=>Or.inl hk) hh1
  have hfl:=(hI.cell _ (q05 hcc)).fl
  refine ⟨hp,L1.box.get 7,by omega,by omega,f1,k2,?_⟩
  refine (q6f kf (by simp only []; omega)).then (by have:=q51 (q01 s.heap w).fields; simp only []; omega) fun ps m2 o2 i2 h2=>⟨ps,rfl,?_⟩
  obtain ⟨L2,t2⟩:=L1.ext h2
  have hps0:ptrs (q01 s.heap w).fields ≠ []->ro ps.blk=0:=fun hne=>by
   rcases o2.blk with e | e
   ·subst e; have:=i2.len; simp at this; exact absurd (List.length_eq_zero_iff.1 this.symm) hne
   ·exact c1.new _ e
  have:=q51 (q01 s.heap w).fields
  refine (qhb (s:={ s with heap:=less s.heap w }) (fs:=fs) L2 i2 hps0 (fun v hv=>?_) (fun c hc=>?_) (by simp only []; omega) (by simpa [less] using hhl)).mono ?_
  ·obtain ⟨hv1,hv2⟩:=q48.1 hv
   have hlv:=hI.field (q05 hcc) hv1 hv2
   exact ⟨hv2,by simpa [less] using q04 (q0i hlv).1⟩
  ·rcases q5z hc with rfl | ⟨b,_,hb⟩
   ·simp only []; omega
   ·have:=hI.cell c (q05 hb); have h5:=this.lo; have h6:=this.hi; omega
  ·rintro _ m3 ⟨hh3,c3⟩
   exact ⟨false,rfl,by simpa using h1,(c1.trans (Chg.ofExt _ h2 c1.new)).trans c3,fun h=>by simp at h,fun _=>hh3⟩
end
end
section
def Bx0 (ro:Nat->Nat) (m:Mem) (bs:List Nat):Prop:=∀ b ∈ bs,b < m.size/\ro b=0
theorem Bx0.to {p:Nat->Prop} {ro ro':Nat->Nat} {m m':Mem} {bs:List Nat} (h:Bx0 ro m bs) (t:Chg p ro m ro' m'):Bx0 ro' m' bs:=fun b hb=>⟨Nat.lt_of_lt_of_le (h b hb).1 t.size,by rw [t.role b (h b hb).1]; exact (h b hb).2⟩
theorem Chg.samB {ro ro':Nat->Nat} {m m':Mem} (t:To ro m ro' m') {bs:List Nat} (h:Bx0 ro m bs):Sam bs m m':=t.sam h
theorem Bx0.two {ro:Nat->Nat} {m m1 m2:Mem} (hn:∀ b,m.size<=b->ro b=0) (h1:m1.size=m.size+1) (h2:m2.size=m.size+2):Bx0 ro m2 [m1.size,m.size]:=fun b hb=>by
 simp at hb
 rcases hb with rfl | rfl
 ·exact ⟨by omega,hn _ (by omega)⟩
 ·exact ⟨by omega,hn _ (by omega)⟩
noncomputable def consSt (s:St) (fs:List Frame) (f:Frame) (x:Instr) (t:Int):St :=
 open Classical in
 if x.into ≠ 0/\at' f.held (x.into - 1) ≠ 0 then
  { s with heap:=s.heap.set (ix (at' f.held (x.into - 1))) ⟨1,t,words f x.args⟩,frames:=fs ++ [Frame.put { f with pc:=f.pc+1,held:=setI f.held (x.into - 1) 0 } x.dst (at' f.held (x.into - 1)) 1] }
 else { s with heap:=place s.heap (q0t s.heap) ⟨1,t,words f x.args⟩,frames:=fs ++ [Frame.put { f with pc:=f.pc+1 } x.dst (1000+q0t s.heap) 1] }
section
variable {m0:Mem} {ro:Nat->Nat} {m:Mem} {mb:Nat} {d p out hp fr:Sl} {s:St} {fs:List Frame} {f:Frame} {r o h:Sl} {css:List (List Ce)}
theorem ST.regSl {e:Nat} {bx:List Ce} {lo:List Int} {lh:List Cell} (S:ST m0 ro m mb e bx out hp fr lo lh fs f r o h css) (hl:f.regs.length<=1000000):q03 m r f.regs:=S.top.regs.ints (by omega)
theorem ST.ownSl {e:Nat} {bx:List Ce} {lo:List Int} {lh:List Cell} (S:ST m0 ro m mb e bx out hp fr lo lh fs f r o h css) (hl:f.own.length<=1000000):q03 m o f.own:=S.top.own.ints (by omega)
theorem ST.heldSl {e:Nat} {bx:List Ce} {lo:List Int} {lh:List Cell} (S:ST m0 ro m mb e bx out hp fr lo lh fs f r o h css) (hl:f.held.length<=1000000):q03 m h f.held:=S.top.held.ints (by omega)
theorem qcb (S:ST m0 ro m mb q0l (SB d p s out hp fr) out hp fr s.out s.heap fs f r o h css) {x:Instr} {a j:Sl} (ha:q03 m0 a x.args) (hargs:∀ y ∈ x.args,0<=y/\y < f.regs.length) (hal:x.args.length<=4) (t:Int)
  (hlen:f.regs.length=f.own.length/\f.held.length=f.own.length/\f.own.length<=2000) (hdst:0<=x.dst/\x.dst < f.own.length) (hinto:0<=x.into/\x.into<=f.held.length) (hpc:0<=f.pc/\f.pc<=100000) (hfs:fs.length<=100000) (hhl:s.heap.length<=1000000000)
  (hkept:∀ w ∈ f.held,w ≠ 0->1000<=w/\ix w < s.heap.length) :
  q08 Tryz.prog q3k [vp mb 0,fv f r o h,xv x a j,vi t] m fun _ m'=>SFin m0 ro m mb d p (consSt s fs f x t) m':=by
 apply qau (mb,0)
 simp -zeta only [q0a,q09,rI,rS,rB,cI,cB,cS,dI,dB,dS,gk,rg]
 intro m1 m2
 have hx2:Ext m m2:=((Ext.refl m).pushed _).pushed _
 have s1:m1.size=m.size+1:=by simp [m1]
 have s2:m2.size=m.size+2:=by simp [m2,s1]
 have B2:=Bx0.two S.lay.new s1 s2
 obtain ⟨S2,t2⟩:=S.ext hx2
 clear_value m2
 have hhlen:h.len=f.held.length:=by have:=S.top.held.len; simp at this; omega
 have g7:∀ {ro m f},ST m0 ro m mb q0l (SB d p s out hp fr) out hp fr s.out s.heap fs f r o h css->gcell m mb 7=some (Sl.v hp):=fun S=>S.lay.box.get 7
 refine ⟨hp,g7 S2,(qln (S2.lay.heap.cells (by omega))).mono ?_⟩
 rintro _ m3 ⟨rfl,h23⟩
 obtain ⟨S3,t3⟩:=S2.ext h23
 have B3:=B2.to t3
 refine ⟨t3.samB B2,_,rfl,fun at0 m'=>∃ (a0:Nat) (f':Frame),at0=a0/\ST m0 ro m' mb q0l (SB d p s out hp fr) out hp fr s.out s.heap fs f' r o h css/\To ro m ro m'/\Bx0 ro m' [m1.size,m.size]/\a0<=s.heap.length /\
   f'.regs=f.regs/\f'.own=f.own/\f'.pc=f.pc/\consSt s fs f x t={ s with heap:=place s.heap a0 ⟨1,t,words f x.args⟩,frames:=fs ++ [Frame.put { f' with pc:=f.pc+1 } x.dst (1000+a0) 1] },?_,?_⟩
 ·have none:¬ (x.into ≠ 0/\at' f.held (x.into - 1) ≠ 0)->∃ (a0:Nat) (f':Frame),((q0t s.heap:Nat):Int)=a0/\ST m0 ro m3 mb q0l (SB d p s out hp fr) out hp fr s.out s.heap fs f' r o h css/\To ro m ro m3/\Bx0 ro m3 [m1.size,m.size]/\a0<=s.heap.length /\
    f'.regs=f.regs/\f'.own=f.own/\f'.pc=f.pc/\consSt s fs f x t={ s with heap:=place s.heap a0 ⟨1,t,words f x.args⟩,frames:=fs ++ [Frame.put { f' with pc:=f.pc+1 } x.dst (1000+a0) 1] }:=fun hno =>
   ⟨_,f,rfl,S3,t2.trans t3,B3,q6s _,rfl,rfl,rfl,by rw [consSt,if_neg hno]⟩
  refine ⟨fun h1=>?_,fun h1=>none fun hh=>by simp at h1; omega⟩
  simp at h1
  have e1:w64 (x.into - 1)=x.into - 1:=q07 (by omega) (by omega)
  rw [e1]
  have hi0:0<=x.into - 1/\x.into - 1 < f.held.length:=by omega
  have gh:=(S3.heldSl (by omega)).atI hi0.1 hi0.2
  refine ⟨by omega,by omega,_,gh,fun h2=>?_,fun h2=>none fun hh=>by simp at h2; exact hh.2 h2⟩
  simp at h2
  obtain ⟨hw1,hw2⟩:=hkept _ (q18 hi0.1 hi0.2) h2
  refine ⟨by omega,by omega,_,gh,by omega,by omega,S3.top.held.wrI hi0.1 hi0.2,?_⟩
  intro m4
  obtain ⟨S4,t4⟩:=S3.setHeld hi0.1 hi0.2 0
  have hix:ix (at' f.held (x.into - 1))=(at' f.held (x.into - 1) - 1000).toNat:=rfl
  have e2:w64 (at' f.held (x.into - 1) - 1000)=((ix (at' f.held (x.into - 1)):Nat):Int):=by rw [q07 (by omega) (by omega)]; omega
  refine ⟨t4.samB B3,ix (at' f.held (x.into - 1)),_,e2,S4,(t2.trans t3).trans t4,B3.to t4,by omega,rfl,rfl,rfl,?_⟩
  rw [consSt,if_pos ⟨by omega,h2⟩,place,if_neg (by omega),ptr_ix hw1]
 ·rintro at0 m4 ⟨a0,f',rfl,S4,t4,B4,ha0,er,eo,ep,ec⟩
  have hx4:Ext m0 m4:=S4.lay.base
  have hr4:q03 m4 r f.regs:=er ▸ S4.regSl (by rw [er]; omega)
  refine ⟨hp,g7 S4,(q9c (f:=f) hr4 (ha.ext hx4) hargs (by omega)).mono ?_⟩
  rintro _ m5 ⟨ws,rfl,ow,h45⟩
  obtain ⟨S5,t5⟩:=S4.ext h45
  have B5:=B4.to t5
  have hwl:(words f x.args).length<=1000000000:=by simp [words]; omega
  have iw:q03 m5 ws (words f x.args):=q03.ofOwn ow (by omega)
  refine ⟨t5.samB B4,ws,rfl,by rw [g7 S5,g7 S4],(qqt S5.lay.heap S5.lay.new ha0 t iw (by omega) hwl S5.lay.base.size).mono ?_⟩
  rintro _ m6 ⟨ro6,hp6,rfl,hh6,c6⟩
  obtain ⟨S6,t6⟩:=S5.setHeap c6 hh6
  have B6:=B5.to t6
  refine ⟨t6.samB B5,hp6,rfl,S6.lay.wrBox (i:=7) (by simp),?_⟩
  intro m7
  obtain ⟨S7,t7⟩:=S6.setBox 7 [.s hp6]
  have B7:=B6.to t7
  have e3:w64 (1000+(a0:Int))=1000+(a0:Int):=q07 (by omega) (by omega)
  have e4:w64 (f.pc+1)=f.pc+1:=q07 (by omega) (by omega)
  rw [e3,e4]
  refine ⟨t7.samB B6,(qa8 (s:={ s with heap:=place s.heap a0 ⟨1,t,words f x.args⟩ }) S7 hfs hdst.1 (by rw [er]; omega) (by rw [eo]; omega) (1000+a0)).mono ?_⟩
  rintro _ m8 ⟨S8,t8⟩
  have B8:=B7.to t8
  refine ⟨t8.samB B7,(q3h (s:={ s with heap:=place s.heap a0 ⟨1,t,words f x.args⟩ }) S8 hfs (f.pc+1)).mono ?_⟩
  rintro _ m9 ⟨S9,t9⟩
  refine ⟨t9.samB B8,ro6,out,hp6,fr,?_,((((t4.trans t5).trans t6).trans t7).trans t8).trans t9⟩
  rw [ec]
  have e5:q1g (1000+(a0:Int))=1:=by rw [q1g,if_pos (by omega)]
  have:=S9.lay
  rw [e5] at this
  exact this
theorem q9q:∀ (rs own:List Int) (r:Int),q0x own (rs ++ [r])=setI (q0x own rs) r (at' (q0x own rs) r+1)
 | [],own,r=>rfl
 | q :: rs,own,r=>by rw [List.cons_append,q0x,q9q rs,q0x]
theorem qgn {l:List Int} {i n:Int} (h:∀ o ∈ l,0<=o/\o<=n) (hn:0<=n):0<=at' l i/\at' l i<=n:=by
 rcases Nat.lt_or_ge i.toNat l.length with h1 | h1
 ·obtain ⟨y,hy⟩:=q00 h1
  rw [at_of' hy]; exact h y (q05 hy)
 ·rw [at',List.getD_eq_getElem?_getD,List.getElem?_eq_none h1]; simp; omega
theorem q7z:∀ (rs own:List Int) (n:Int),0<=n->(∀ o ∈ own,0<=o/\o<=n)->∀ o ∈ q0x own rs,0<=o/\o<=n+rs.length
 | [],own,n,hn,h,o,ho=>by have:=h o ho; simp; omega
 | r :: rs,own,n,hn,h,o,ho=>by
  have:=q7z rs (setI own r (at' own r+1)) (n+1) (by omega) (fun q hq=>by
   have:=qgn (i:=r) h hn
   rcases q5k hq with hq | hq
   ·omega
   ·have:=h q hq; omega) o ho
  simp only [List.length_cons]; omega
noncomputable def openSt (s:St) (fs:List Frame) (f:Frame) (x:Instr):St :=
 open Classical in
 if (q01 s.heap (at' f.regs (at' x.args 0))).count=1/\x.op=17 then
  { s with heap:=s.heap.set (ix (at' f.regs (at' x.args 0))) ⟨-1,0,q0p (q01 s.heap (at' f.regs (at' x.args 0))).fields.length⟩,frames:=fs ++ [{ f with own:=q0x f.own (x.args.drop 1),pc:=f.pc+1,held:=setI f.held (at' x.args 0) (at' f.regs (at' x.args 0)) }] }
 else { s with heap:=apart s.heap (at' f.regs (at' x.args 0)),frames:=fs ++ [{ f with own:=q0x f.own (x.args.drop 1),pc:=f.pc+1 }] }
theorem q72 (n:Nat):zrow [.i (0:Int)] n=(q0p n).map Ce.i:=by
 induction n with
 | zero=>rfl
 | succ n ih =>
  have:zrow [.i (0:Int)] (n+1)=.i 0 :: zrow [.i (0:Int)] n:=by simp [zrow,List.replicate_succ]
  rw [this,ih]; simp [q0p,List.replicate_succ]
theorem q7u {m:Mem} {n:Int} (h0:0<=n) (h1:n<=1000000):q08 Tryz.prog q5c [vi n] m fun v m'=>v=Sl.v (.mk m.size 0 n.toNat n.toNat)/\m'=m.push (.cells (vals ((q0p n.toNat).map Ce.i)) ty_int):=by
 apply qms
 refine ⟨h0,Int.le_refl _,by omega,by omega,?_⟩
 rw [q72]
 exact ⟨rfl,rfl⟩
theorem qqf {m:Mem} (n:Nat):Own m (m.push (.cells (vals ((q0p n).map Ce.i)) ty_int)) ty_int 1 (.mk m.size 0 n n) ((q0p n).map Ce.i):=Own.new (Ext.refl m) ty_int 1 _ n (by simp [q31])
theorem qn5 (S:ST m0 ro m mb q0l (SB d p s out hp fr) out hp fr s.out s.heap fs f r o h css) {x:Instr} {a j:Sl} (ha:q03 m0 a x.args) (hargs:∀ y ∈ x.args,0<=y/\y < f.regs.length) (hal:1<=x.args.length/\x.args.length<=4) (hop:x.op=16 \/ x.op=17)
  (hlen:f.regs.length=f.own.length/\f.held.length=f.own.length/\f.own.length<=2000) (hpc:0<=f.pc/\f.pc<=100000) (hfs:fs.length<=100000) (hhl:s.heap.length<=1000000000) (hown:∀ q ∈ f.own,0<=q/\q<=999999)
  (hlv:live s.heap (at' f.regs (at' x.args 0))) {e:Nat->Int} (hI:HInv s.heap e) :
  q08 Tryz.prog q4q [vp mb 0,fv f r o h,xv x a j] m fun _ m'=>SFin m0 ro m mb d p (openSt s fs f x) m':=by
 apply qbh (mb,0)
 simp -zeta only [q0a,q09,rI,rS,rB,cI,cB,cS,dI,dB,dS,gk,rg]
 intro m1 m2
 have hx2:Ext m m2:=((Ext.refl m).pushed _).pushed _
 have s1:m1.size=m.size+1:=by simp [m1]
 have s2:m2.size=m.size+2:=by simp [m2,s1]
 have B2:=Bx0.two S.lay.new s1 s2
 obtain ⟨S2,t2⟩:=S.ext hx2
 clear_value m2
 have hrl:r.len=f.regs.length:=by have:=S.top.regs.len; simp at this; omega
 have hol:o.len=f.own.length:=by have:=S.top.own.len; simp at this; omega
 have hhlen:h.len=f.held.length:=by have:=S.top.held.len; simp at this; omega
 have hal':=ha.len
 have h0:0<=at' x.args 0/\at' x.args 0 < f.regs.length:=hargs _ (q18 (by omega) (by omega))
 have ga:∀ {m'},Ext m0 m'->∀ {k:Nat} {y},x.args[k]?=some y->gcell m' a.blk (a.off+Int.toNat (k:Int)*1)=some (vi y):=fun hx k y hy=>by simpa using (ha.ext hx).at' hy
 refine ⟨by omega,by omega,at' x.args 0,(ha.ext S2.lay.base).atI (by omega) (by omega),h0.1,by omega,at' f.regs (at' x.args 0),(S2.regSl (by omega)).atI h0.1 h0.2,?_⟩
 refine ⟨fun i m'=>∃ k:Nat,i=k/\1<=k/\k<=x.args.length/\ST m0 ro m' mb q0l (SB d p s out hp fr) out hp fr s.out s.heap fs { f with own:=q0x f.own ((x.args.take k).drop 1) } r o h css/\To ro m ro m'/\Bx0 ro m' [m1.size,m.size],fun i _=>((x.args.length:Int) - i).toNat,⟨1,rfl,by omega,by omega,?_,t2,B2⟩,?_⟩
 ·have e1:(x.args.take 1).drop 1=[]:=by simp
  rw [e1]; exact S2
 rintro i m3 ⟨k,rfl,hk1,hk2,S3,t3,B3⟩
 have hkb:∀ q ∈ q0x f.own ((x.args.take k).drop 1),0<=q/\q<=1000010:=fun q hq=>by
  have:=q7z _ f.own 999999 (by omega) hown q hq
  have h3:((x.args.take k).drop 1).length<=4:=by simp; omega
  omega
 refine ⟨fun h1=>?_,fun h1=>?_⟩
 ·simp only [decide_eq_true_eq] at h1
  obtain ⟨y,hy⟩:=q00 (l:=x.args) (k:=k) (by omega)
  have hyr:=hargs y (q05 hy)
  have hyo:y < (q0x f.own ((x.args.take k).drop 1)).length:=by rw [q4i]; omega
  have hb:=qgn (i:=y) hkb (by omega)
  refine ⟨by omega,by omega,y,ga S3.lay.base hy,by omega,by omega,y,ga S3.lay.base hy,hyr.1,by omega,_,(S3.ownSl (by simp only [q4i]; omega)).atI hyr.1 hyo,hyr.1,by omega,S3.top.own.wrI hyr.1 hyo,?_⟩
  intro m4
  have e2:w64 (at' (q0x f.own ((x.args.take k).drop 1)) y+1)=at' (q0x f.own ((x.args.take k).drop 1)) y+1:=q07 (by omega) (by omega)
  obtain ⟨S4,t4⟩:=S3.setOwn hyr.1 hyo (at' (q0x f.own ((x.args.take k).drop 1)) y+1)
  have e3:m4=scells m3 o.blk (o.off+y.toNat*1) [.i (at' (q0x f.own ((x.args.take k).drop 1)) y+1)]:=by simp only [m4,e2]
  clear_value m4
  subst e3
  refine ⟨t4.samB B3,?_,?_⟩
  ·rw [q6l (k:=k) (n:=x.args.length) (by omega) (by omega)]
   refine ⟨k+1,rfl,by omega,by omega,?_,t3.trans t4,B3.to t4⟩
   have e4:(x.args.take (k+1)).drop 1=(x.args.take k).drop 1 ++ [y]:=by
    rw [q06 hy,List.drop_append_of_le_length (by simp; omega)]
   rw [e4,q9q]
   exact S4
  ·rw [q6l (k:=k) (n:=x.args.length) (by omega) (by omega)]
   show ((x.args.length:Int) - ((k+1:Nat):Int)).toNat < ((x.args.length:Int) - (k:Int)).toNat
   omega
 ·simp only [decide_eq_false_iff_not] at h1
  have e1:(x.args.take k).drop 1=x.args.drop 1:=by rw [q0b (by omega)]
  rw [e1] at S3
  have hwx:=ptr_ix hlv.1
  obtain ⟨hcc,hpos⟩:=q0i hlv
  have hlt:=q04 hcc
  have hlen3:=S3.lay.heap.len
  have e4:w64 (f.pc+1)=f.pc+1:=q07 (by omega) (by omega)
  have hl1:=hlv.1
  have hix:ix (at' f.regs (at' x.args 0))=(at' f.regs (at' x.args 0) - 1000).toNat:=rfl
  have e5:w64 (at' f.regs (at' x.args 0) - 1000)=at' f.regs (at' x.args 0) - 1000:=q07 (by omega) (by omega)
  rw [e4,e5,← hix]
  generalize hw:at' f.regs (at' x.args 0)=w at *
  have gw:∀ {ro m lh own' held'},ST m0 ro m mb q0l (SB d p s out hp fr) out hp fr s.out lh fs { f with own:=own',held:=held' } r o h css->gcell m r.blk (r.off+Int.toNat (at' x.args 0)*1)=some (vi w):=fun S=>by rw [← hw]; exact (S.regSl (by simp only []; omega)).atI h0.1 h0.2
  refine ⟨h0.1,by omega,w,gw S3,(qfo S3.lay hlv hI (by omega)).mono ?_⟩
  rintro _ m4 ⟨b,rfl,hb,c4,hbt4,hbf4⟩
  refine ⟨(c4.mono fun k hk=>by omega:To ro m3 ro m4).samB B3,b,rfl,fun hbt=>?_,fun hbf=>?_⟩
  ·have hone:=hb.1 hbt
   obtain ⟨S4,t4⟩:=S3.setHeap (c4.mono fun k hk=>Or.inl hk) (hbt4 hbt)
   have B4:=B3.to t4
   have g7:gcell m4 mb 7=some (Sl.v hp):=S4.lay.box.get 7
   refine ⟨fun h17=>?_,fun h17=>?_⟩
   ·simp at h17
    obtain ⟨f0,k0,k1,k2,kf,kr⟩:=S4.lay.heap.get hcc
    have hfl:=(hI.cell _ (q05 hcc)).fl
    have hfll:=kf.len
    refine ⟨hp,g7,hp,g7,by omega,by omega,f0,k2,(q7u (by omega) (by omega)).mono ?_⟩
    rintro _ m5 ⟨rfl,rfl⟩
    have e6:Int.toNat (f0.len:Int)=(q01 s.heap w).fields.length:=by omega
    rw [e6]
    have h45:Ext m4 (m4.push (.cells (vals ((q0p (q01 s.heap w).fields.length).map Ce.i)) ty_int)):=Ext.push _ _
    have oz:=qqf (m:=m4) (q01 s.heap w).fields.length
    obtain ⟨S5,t5⟩:=S4.ext h45
    have B5:=B4.to t5
    have hz0:ro m4.size=0:=S4.lay.new _ (Nat.le_refl _)
    generalize m4.push (.cells (vals ((q0p (q01 s.heap w).fields.length).map Ce.i)) ty_int)=m5 at *
    obtain ⟨hh6,c6⟩:=S5.lay.heap.setCell S5.lay.new hlt (-1) 0 (f:=.mk m4.size 0 _ _) (q03.ofOwn oz (by rw [q31]; omega)) (FOk.of S4.lay.heap (fun h0=>h45.same _ (S4.lay.heap.blk h0).2) (fun _=>oz) (fun _=>hz0) S4.lay.base.size)
    refine ⟨t5.samB B4,_,rfl,h45.keepG g7,by omega,by omega,S5.lay.heap.wr (o:=0) hlt (by decide),?_⟩
    intro m6
    obtain ⟨S6,t6⟩:=S5.setHeap (c6.mono fun k hk=>Or.inl hk) hh6
    have B6:=B5.to t6
    refine ⟨t6.samB B5,h0.1,by omega,w,gw S6,h0.1,by omega,S6.top.held.wrI h0.1 (by simp only []; omega),?_⟩
    intro m7
    obtain ⟨S7,t7⟩:=S6.setHeld h0.1 (by simp only []; omega) w
    have B7:=B6.to t7
    refine ⟨t7.samB B6,(q3h (s:={ s with heap:=s.heap.set (ix w) ⟨-1,0,q0p (q01 s.heap w).fields.length⟩ }) S7 hfs (f.pc+1)).mono ?_⟩
    rintro _ m8 ⟨S8,t8⟩
    refine ⟨t8.samB B7,ro,out,hp,fr,?_,(((((t3.trans t4).trans t5).trans t6).trans t7).trans t8)⟩
    rw [openSt,hw,if_pos ⟨hone,h17⟩]
    exact S8.lay
   ·simp at h17
    refine ⟨hp,g7,?_⟩
    intro m5
    have h45:Ext m4 m5:=(Ext.refl m4).pushed _
    obtain ⟨S5,t5⟩:=S4.ext h45
    have B5:=B4.to t5
    clear_value m5
    refine ⟨by omega,by omega,S5.lay.heap.wr (o:=0) hlt (by decide),?_⟩
    intro m6
    obtain ⟨hh6,c6⟩:=S5.lay.heap.setCell S5.lay.new hlt 0 0 (f:=.mk m4.size 0 0 0) (l:=[]) ⟨rfl,by simp,by simp,by simp⟩ (fun hne=>absurd rfl hne)
    obtain ⟨S6,t6⟩:=S5.setHeap (c6.mono fun k hk=>Or.inl hk) hh6
    have B6:=B5.to t6
    refine ⟨t6.samB B5,hp,S6.lay.box.get 7,(qcz (S6.lay.heap.cells (by simp; omega))).mono ?_⟩
    rintro _ m7 ⟨rfl,h67⟩
    obtain ⟨S7,t7⟩:=S6.ext h67
    have B7:=B6.to t7
    refine ⟨t7.samB B6,_,rfl,S7.lay.wrBox (i:=7) (by simp),?_⟩
    intro m8
    obtain ⟨S7',t7'⟩:=S7.setHeap (Chg.refl _ S7.lay.new) (S7.lay.heap.cut (q8i _ _))
    obtain ⟨S8,t8⟩:=S7'.setBox 7 [.s (hp.cut 0 (trimN (s.heap.set (ix w) free) (s.heap.set (ix w) free).length) 3)]
    have B8:=B7.to t8
    refine ⟨t8.samB B7,(q3h (s:={ s with heap:=trim (s.heap.set (ix w) free) }) S8 hfs (f.pc+1)).mono ?_⟩
    rintro _ m9 ⟨S9,t9⟩
    refine ⟨t9.samB B8,ro,out,hp.cut 0 (trimN (s.heap.set (ix w) free) (s.heap.set (ix w) free).length) 3,fr,?_,((((((t3.trans t4).trans t5).trans t6).trans t7).trans t8).trans t9)⟩
    rw [openSt,hw,if_neg (fun hh=>h17 hh.2),Go.Proofs.YtpggcodlaajceaaGreat.apart,if_pos hone]
    exact S9.lay
  ·have hone:(q01 s.heap w).count ≠ 1:=fun e=>by have:=hb.2 e; rw [hbf] at this; simp at this
   obtain ⟨S4,t4⟩:=S3.setHeap (c4.mono fun k hk=>Or.inl hk) (hbf4 hbf)
   have B4:=B3.to t4
   refine (q3h (s:={ s with heap:=refer (less s.heap w) (ptrs (q01 s.heap w).fields) }) S4 hfs (f.pc+1)).mono ?_
   rintro _ m5 ⟨S5,t5⟩
   refine ⟨t5.samB B4,ro,out,hp,fr,?_,(t3.trans t4).trans t5⟩
   rw [openSt,hw,if_neg (fun hh=>hone hh.1),Go.Proofs.YtpggcodlaajceaaGreat.apart,if_neg hone]
   exact S5.lay
end
end
section
def ownArg (im:Image) (x:Instr):Nat->List Int->List Int
 | _,[]=>[]
 | k,w :: ws=>(if (x.op=9 \/ x.op=24)/\lentIn im x k=true then 0 else q1g w) :: ownArg im x (k+1) ws
theorem qh9 (im:Image) (x:Instr):∀ (l r:List Int) (k:Nat),ownArg im x k (l ++ r)=ownArg im x k l ++ ownArg im x (k+l.length) r
 | [],r,k=>by simp [ownArg]
 | a :: l,r,k=>by
  have:=qh9 im x l r (k+1)
  simp only [List.cons_append,ownArg,this,List.length_cons]
  have e:k+(l.length+1)=k+1+l.length:=by omega
  rw [e]
theorem qg8 (im:Image) (x:Instr):∀ (l:List Int) (k:Nat),(ownArg im x k l).length=l.length
 | [],k=>rfl
 | a :: l,k=>by simp only [ownArg,List.length_cons,qg8 im x l]
theorem qm0 {im:Image} {x:Instr} (hx:x.op=9 \/ x.op=24):∀ (l:List Int) (k:Nat),ownArg im x k l=q10 (q0y im x.num).lent k l
 | [],k=>rfl
 | a :: l,k=>by
  simp only [ownArg,q10,qm0 hx l]
  congr 1
  unfold lentIn
  by_cases h:((q0y im x.num).lent.any fun y=>y == (k:Int))=true
  ·rw [if_pos ⟨hx,h⟩,if_pos h]
  ·rw [if_neg (fun hh=>h hh.2),if_neg h]
theorem qjz {im:Image} {x:Instr} (hx:¬ (x.op=9 \/ x.op=24)):∀ (l:List Int) (k:Nat),ownArg im x k l=q10 [] k l
 | [],k=>rfl
 | a :: l,k=>by
  simp only [ownArg,q10,qjz hx l,List.any_nil,Bool.false_eq_true,if_false]
  rw [if_neg (fun hh=>hx hh.1)]
theorem qk7 {m:Mem} {mb:Nat} {d p:Sl} {im:Image} (him:ImageR m d p im) (g0:gcell m mb 0=some (Sl.v d)) (g1:gcell m mb 1=some (Sl.v p)) {x:Instr} (hc:CallOk im x) (a j:Sl) {ws:Sl} {l:List Int} (hw:q03 m ws l) (hsm:l.length<=1000000) :
  GivesI q2o [vp mb 0,xv x a j,Sl.v ws] m (ownArg im x 0 l):=by
 apply q9w (mb,0)
 simp -zeta only [q0a,q09,rI,rS,rB,cI,cB,cS,dI,dB,dS,gk,rg]
 intro m1 m2
 have hx1:Ext m m1:=(Ext.refl m).pushed _
 have h2:Ext m1 m2:=(Ext.refl m1).pushed _
 have ho:Own m1 m2 ty_int 1 (.mk m1.size 0 0 0) []:=Own.new (Ext.refl m1) ty_int 1 [] 0 (by simp)
 have hl:∀ b ∈ [m.size],b < m1.size:=by simp [m1]
 have hwl:=hw.len
 clear_value m2
 clear_value m1
 refine forSI (n:=l.length) (by omega) (fun k s m'=>Ext m1 m'/\Own m1 m' ty_int 1 s ((ownArg im x 0 (l.take k)).map Ce.i)) ⟨h2,by simpa [ownArg] using ho⟩ ?_
 rintro k s m3 I μ hk ⟨hx,ho2⟩ next
 have hx3:=hx1.trans hx
 refine ⟨fun h=>?_,fun h=>?_⟩
 ·simp only [decide_eq_true_eq] at h
  obtain ⟨y,hy⟩:=q00 (l:=l) (k:=k) (by omega)
  have hlk:(l.take k).length=k:=by simp; omega
  have hstep:ownArg im x 0 (l.take (k+1))=ownArg im x 0 (l.take k) ++ [if (x.op=9 \/ x.op=24)/\lentIn im x k=true then 0 else q1g y]:=by
   rw [q06 hy,qh9,hlk]
   simp [ownArg]
  have hsl:(ownArg im x 0 (l.take k)).length < 1000000000:=by rw [qg8,hlk]; omega
  refine ⟨by omega,by omega,y,by simpa using hx3.gcell (hw.at' hy),(q1b _ _).thenS hx hl fun b m4 hb h4 h42=>⟨b,rfl,fun hbt=>?_,fun hbf=>?_⟩⟩
  ·have hx4:=hx1.trans h42
   refine ⟨d,hx4.gcell g0,p,hx4.gcell g1,(q9l (him.ext hx4) hc a j k).thenS h42 hl fun b2 m5 hb2 h5 h52=>⟨b2,rfl,fun h6=>?_,fun h6=>?_⟩⟩
   ·intro m6
    refine q54 ((ho2.ext h4).ext h5) h52 hsl fun r m7 q1 q2=>⟨Ext.sam2 (h52.pushed _) q2 hl,next (by omega) _ _ ⟨q2,?_⟩⟩
    rw [hstep,if_neg (nb hb2 h6),q1g,if_pos (hb.1 hbt)]; exact q1
   ·intro m6
    refine q54 ((ho2.ext h4).ext h5) h52 hsl fun r m7 q1 q2=>⟨Ext.sam2 (h52.pushed _) q2 hl,next (by omega) _ _ ⟨q2,?_⟩⟩
    rw [hstep,if_pos (yb hb2 h6)]; exact q1
  ·intro m6
   refine q54 (ho2.ext h4) h42 hsl fun r m7 q1 q2=>⟨Ext.sam2 (h42.pushed _) q2 hl,next (by omega) _ _ ⟨q2,?_⟩⟩
   rw [hstep]
   have e:(if (x.op=9 \/ x.op=24)/\lentIn im x k=true then 0 else q1g y)=0:=by
    rw [q1g,if_neg (fb hb hbf)]; split <;> rfl
   rw [e]; exact q1
 ·simp only [decide_eq_false_iff_not] at h
  rw [q0b (by omega)] at ho2
  exact ⟨s,rfl,ho2.base hx1.size,hx3⟩
structure New3 (m m':Mem) (b1 b2 b3 n:Nat) (regs own held:List Int):Prop where
 ext:Ext m m'
 lo:m.size<=b1/\m.size<=b2/\m.size<=b3/\b1 ≠ b2/\b1 ≠ b3/\b2 ≠ b3/\b1 < m'.size/\b2 < m'.size/\b3 < m'.size
 kr:Blk m' b1 ty_int (regs.map Ce.i)
 ko:Blk m' b2 ty_int (own.map Ce.i)
 kh:Blk m' b3 ty_int (held.map Ce.i)
 len:regs.length=n/\own.length=n/\held.length=n
theorem qnr {m:Mem} {b:Nat} {n:Nat} {l:List Int} (hb:Blk m b ty_int ((q0p n).map Ce.i)) (hl:l.length<=n):Blk (scells m b 0 (l.map Ce.i)) b ty_int ((l ++ q0p (n - l.length)).map Ce.i):=by
 have:=Blk.scells (m:=m) (o:=0) (r:=l.map Ce.i) hb
 have e:setL ((q0p n).map Ce.i) 0 (l.map Ce.i)=(l ++ q0p (n - l.length)).map Ce.i:=by
  have h1:=qfm [] (l.map Ce.i) ((q0p n).map Ce.i) (by simp [q31]; omega)
  simp only [List.nil_append,List.length_nil] at h1
  rw [h1]
  simp [q0p,List.drop_replicate]
 rw [e] at this; exact this
theorem qov {m:Mem} {d p:Sl} {im:Image} (him:ImageR m d p im) {g:Int} (h0:0<=g) {q:Proc} (hq:im.procs[g.toNat]?=some q) (hreg:0<=q.regs/\q.regs<=2000) (dst:Int) {ws os:Sl} {wl ol:List Int} (hw:q03 m ws wl) (ho:q03 m os ol) (hwl:(wl.length:Int)<=q.regs) (hol:ol.length=wl.length) :
  q08 Tryz.prog q4j [.agg #[Sl.v d,Sl.v p],vi g,vi dst,Sl.v ws,Sl.v os] m fun v m'=>∃ b1 b2 b3,v=.agg #[vi g,vi 0,vi dst,Sl.v (.mk b1 0 q.regs.toNat q.regs.toNat),Sl.v (.mk b2 0 q.regs.toNat q.regs.toNat),Sl.v (.mk b3 0 q.regs.toNat q.regs.toNat)] /\
   New3 m m' b1 b2 b3 q.regs.toNat (wl ++ q0p (q.regs.toNat - wl.length)) (ol ++ q0p (q.regs.toNat - ol.length)) (q0p q.regs.toNat):=by
 apply qj4
 simp -zeta only [q0a,q09,rI,rS,rB,cI,cB,cS,dI,dB,dS,gk,rg]
 intro m1 m2
 have hx2:Ext m m2:=((Ext.refl m).pushed _).pushed _
 have s1:m1.size=m.size+1:=by simp [m1]
 have s2:m2.size=m.size+2:=by simp [m2,s1]
 have hl:∀ b ∈ [m1.size,m.size],b < m2.size:=by simp; omega
 have hpl:=him.procs.len
 have hlt:=q04 hq
 have hwsl:=hw.len
 have hosl:=ho.len
 clear_value m2
 obtain ⟨a',l',c',_,_,_,_,_,_,k3,_⟩:=(him.ext hx2).procs.at' hq
 refine ⟨h0,by omega,q.regs,k3,(q7u hreg.1 (by omega)).mono ?_⟩
 rintro _ m3 ⟨rfl,e3⟩
 have h23:Ext m2 m3:=by rw [e3]; exact Ext.push _ _
 have s3:m3.size=m2.size+1:=by rw [e3]; simp
 have k1:Blk m3 m2.size ty_int ((q0p q.regs.toNat).map Ce.i):=by rw [e3]; exact Blk.push _ _ _
 clear e3
 refine ⟨h23.sam hl,_,rfl,(q7u hreg.1 (by omega)).mono ?_⟩
 rintro _ m4 ⟨rfl,e4⟩
 have h34:Ext m3 m4:=by rw [e4]; exact Ext.push _ _
 have s4:m4.size=m3.size+1:=by rw [e4]; simp
 have k2:Blk m4 m3.size ty_int ((q0p q.regs.toNat).map Ce.i):=by rw [e4]; exact Blk.push _ _ _
 clear e4
 have h24:=h23.trans h34
 have hx4:=hx2.trans h24
 have hmin1:Nat.min ws.len q.regs.toNat=wl.length:=by rw [hwsl]; exact Nat.min_eq_left (by omega)
 have hmin2:Nat.min os.len q.regs.toNat=ol.length:=by rw [hosl]; exact Nat.min_eq_left (by omega)
 refine ⟨h34.sam (fun b hb=>h23.lt (hl b hb)),_,rfl,wl.map Ce.i,by simp only [Sl.len_mk]; rw [hmin1]; simp,(hw.ext hx4).rows,(k1.ext h34).wrOk (by simp [q31]; omega),?_⟩
 intro m5
 have k5:Blk m5 m2.size ty_int ((wl ++ q0p (q.regs.toNat - wl.length)).map Ce.i):=qnr (k1.ext h34) (by omega)
 have k52:Blk m5 m3.size ty_int ((q0p q.regs.toNat).map Ce.i):=k2.congr (q0n _ _ _ _ (show m3.size ≠ m2.size by omega))
 have h25:Ext m2 m5:=h24.scells (Nat.le_refl _) _ _
 have s5:m5.size=m4.size:=q02 _ _ _ _
 clear_value m5
 have hx5:=hx2.trans h25
 refine ⟨Ext.sam2 h24 h25 hl,ol.map Ce.i,by simp only [Sl.len_mk]; rw [hmin2]; simp,(ho.ext hx5).rows,k52.wrOk (by simp [q31]; omega),?_⟩
 intro m6
 have k6:Blk m6 m3.size ty_int ((ol ++ q0p (q.regs.toNat - ol.length)).map Ce.i):=qnr k52 (by omega)
 have k61:Blk m6 m2.size ty_int ((wl ++ q0p (q.regs.toNat - wl.length)).map Ce.i):=k5.congr (q0n _ _ _ _ (show m2.size ≠ m3.size by omega))
 have h26:Ext m2 m6:=h25.scells (show m2.size<=m3.size by omega) _ _
 have s6:m6.size=m5.size:=q02 _ _ _ _
 clear_value m6
 refine ⟨Ext.sam2 h25 h26 hl,(q7u hreg.1 (by omega)).mono ?_⟩
 rintro _ m7 ⟨rfl,e7⟩
 have h67:Ext m6 m7:=by rw [e7]; exact Ext.push _ _
 have s7:m7.size=m6.size+1:=by rw [e7]; simp
 have k7:Blk m7 m6.size ty_int ((q0p q.regs.toNat).map Ce.i):=by rw [e7]; exact Blk.push _ _ _
 clear e7
 refine ⟨Ext.sam2 h26 (h26.trans h67) hl,_,rfl,?_⟩
 intro m8
 have hx8:Ext m m8:=(hx2.trans (h26.trans h67)).scells (by omega) _ _
 have s8:m8.size=m7.size:=q02 _ _ _ _
 have ne:∀ b,b ≠ m1.size->m8[b]?=m7[b]?:=fun b hb=>q0n _ _ _ _ hb
 refine ⟨m2.size,m3.size,m6.size,rfl,hx8,by omega,(k61.ext h67).congr (ne _ (by omega)),(k6.ext h67).congr (ne _ (by omega)),k7.congr (ne _ (by omega)),by simp [q31]; omega⟩
def rol3 (ro:Nat->Nat) (b1 b2 b3 n:Nat):Nat->Nat:=upd (upd (upd ro b1 (10+3*n)) b2 (11+3*n)) b3 (12+3*n)
theorem New3.chg {p:Nat->Prop} {ro:Nat->Nat} {m m':Mem} {b1 b2 b3 k n:Nat} {regs own held:List Int} (N:New3 m m' b1 b2 b3 k regs own held) (hn:∀ b,m.size<=b->ro b=0):Chg p ro m (rol3 ro b1 b2 b3 n) m':=by
 have hlo:=N.lo
 refine ⟨N.ext.size,fun b hb=>?_,fun b hb=>?_,fun b hb _=>N.ext.same b hb⟩
 ·unfold rol3; rw [q1y (by omega),q1y (by omega),q1y (by omega)]
 ·unfold rol3; rw [q1y (by omega),q1y (by omega),q1y (by omega)]; exact hn b (by have:=N.ext.size; omega)
theorem New3.arr {ro:Nat->Nat} {m m':Mem} {b1 b2 b3 k n:Nat} {regs own held:List Int} (N:New3 m m' b1 b2 b3 k regs own held) :
  Arr (rol3 ro b1 b2 b3 n) m' ty_int 1 (10+3*n) (.mk b1 0 k k) (regs.map Ce.i)/\Arr (rol3 ro b1 b2 b3 n) m' ty_int 1 (11+3*n) (.mk b2 0 k k) (own.map Ce.i)/\Arr (rol3 ro b1 b2 b3 n) m' ty_int 1 (12+3*n) (.mk b3 0 k k) (held.map Ce.i):=by
 have hlo:=N.lo
 obtain ⟨l1,l2,l3⟩:=N.len
 refine ⟨⟨by simp [l1],by simp,Or.inr ⟨b1,k,[],rfl,?_,by rw [List.append_nil]; exact N.kr,by simp [l1]⟩⟩,⟨by simp [l2],by simp,Or.inr ⟨b2,k,[],rfl,?_,by rw [List.append_nil]; exact N.ko,by simp [l2]⟩⟩,⟨by simp [l3],by simp,Or.inr ⟨b3,k,[],rfl,?_,by rw [List.append_nil]; exact N.kh,by simp [l3]⟩⟩⟩
 ·unfold rol3; rw [q1y (by omega),q1y (by omega),q21]
 ·unfold rol3; rw [q1y (by omega),q21]
 ·unfold rol3; rw [q21]
theorem New3.box {m m':Mem} {b1 b2 b3 k:Nat} {regs own held:List Int} (N:New3 m m' b1 b2 b3 k regs own held) {m1:Mem} (hx:Ext m1 m) {nb:Nat} (h1:m1.size<=nb) (h2:nb < m.size) (i:Nat) (cs:List Ce):New3 m1 (scells m' nb i cs) b1 b2 b3 k regs own held:=by
 have hlo:=N.lo
 have hs:=hx.size
 exact ⟨(hx.trans N.ext).scells h1 _ _,by rw [q02]; omega,N.kr.congr (q0n _ _ _ _ (by omega)),N.ko.congr (q0n _ _ _ _ (by omega)),N.kh.congr (q0n _ _ _ _ (by omega)),N.len⟩
theorem New3.ext' {m m' m2:Mem} {b1 b2 b3 k:Nat} {regs own held:List Int} (N:New3 m m' b1 b2 b3 k regs own held) (hx:Ext m' m2):New3 m m2 b1 b2 b3 k regs own held:=by
 have hlo:=N.lo
 have:=hx.size
 exact ⟨N.ext.trans hx,by omega,N.kr.ext hx,N.ko.ext hx,N.kh.ext hx,N.len⟩
section
variable {m0:Mem} {ro:Nat->Nat} {m:Mem} {mb:Nat} {d p out hp fr:Sl} {s:St} {fs:List Frame} {f:Frame} {r o h:Sl} {css:List (List Ce)}
theorem Top.replace {ro':Nat->Nat} {m':Mem} (T:Top ro m fr fs f r o h css) (hc:Chg (fun _=>False) ro m ro' m') {f':Frame} {r' o' h':Sl} (h1:Arr ro' m' ty_int 1 (10+3*fs.length) r' (f'.regs.map Ce.i)) (h2:Arr ro' m' ty_int 1 (11+3*fs.length) o' (f'.own.map Ce.i)) (h3:Arr ro' m' ty_int 1 (12+3*fs.length) h' (f'.held.map Ce.i)) :
  wrOk m' fr.blk (fr.off+fs.length*6) 6/\FrmL ro' (scells m' fr.blk (fr.off+fs.length*6) [.i f'.proc,.i f'.pc,.i f'.dst,.s r',.s o',.s h']) fr (fs ++ [f'])/\Chg (fun k=>k=4) ro' m' ro' (scells m' fr.blk (fr.off+fs.length*6) [.i f'.proc,.i f'.pc,.i f'.dst,.s r',.s o',.s h']):=by
 have T':Top ro' m' fr fs f r o h css:=T.chg hc fun _ _=>id
 have hb:=T'.blk
 have hl:css.flatten.length=fs.length*6:=by rw [q0g T.size,T.len]
 have hc4:Chg (fun k=>k=4) ro' m' ro' (scells m' fr.blk (fr.off+fs.length*6) [.i f'.proc,.i f'.pc,.i f'.dst,.s r',.s o',.s h']):=Chg.scells hc.new hb.1 _ _
 refine ⟨T'.arr.wr (by simp [hl]),Top.frm (f:=f') (fs:=fs) (css:=css) (r:=r') (o:=o') (h:=h') ⟨?_,T.len,T.size,T'.outer hc4 fun k h2 h3=>by omega,h1.chg hc4 (by omega),h2.chg hc4 (by omega),h3.chg hc4 (by omega)⟩,hc4⟩
 have:=T'.arr.set (o:=fs.length*6) (new:=[.i f'.proc,.i f'.pc,.i f'.dst,.s r',.s o',.s h']) (by simp [hl])
 rw [setL_app_right _ _ _ _ (by omega),hl,Nat.sub_self] at this
 exact this
def qpv (mb nb:Nat) (bs:List Nat) (op pc dst:Int) (g0 g1 g2:Int) (r' o' h':Sl) (m17:Mem) (R:Value->Mem->Prop):Prop :=
 ((op == (24:Int))=true ->
 let m18:Mem:=scells m17 nb 2 [.i dst]
 ∃ v96:Sl,gcell m18 mb 8=some (Sl.v v96) /\
 ∃ v101:Sl,gcell m18 mb 8=some (Sl.v v101) /\
 (0:Int)<=(w64 ((v101.len:Int) - (1:Int)))/\(w64 ((v101.len:Int) - (1:Int))) < (v96.len:Int) /\
 wrOk m18 v96.blk (v96.off+Int.toNat (w64 ((v101.len:Int) - (1:Int)))*6) 6 /\
 let m19:Mem:=scells m18 v96.blk (v96.off+Int.toNat (w64 ((v101.len:Int) - (1:Int)))*6) [.i g0,.i g1,.i dst,.s r',.s o',.s h']
 Sam (nb :: bs) m18 m19 /\
 R (.tuple #[]) m19) /\
 ((op == (24:Int))=false ->
 q08 Tryz.prog q0s [vp mb 0,vi (w64 (pc+(1:Int)))] m17 fun _ m20 =>
 Sam (nb :: bs) m17 m20 /\
 ∃ v116:Sl,gcell m20 mb 8=some (Sl.v v116) /\
 let m21:Mem:=m20.push (.cells (vals [.i g0,.i g1,.i g2,.s r',.s o',.s h']) 84)
 gcell m21 mb 8=gcell m20 mb 8 /\
 appC m21 84 [.i (0:Int),.i (0:Int),.i (0:Int),.s Sl.nil,.s Sl.nil,.s Sl.nil] 96 v116 (Sl.mk m20.size 0 1 1) fun r119 m22 =>
 Sam (nb :: bs) m21 m22 /\
 wrOk m22 mb 8 1 /\
 let m23:Mem:=scells m22 mb 8 [.s r119]
 Sam (nb :: bs) m22 m23 /\
 R (.tuple #[]) m23)
theorem qr9 (S:ST m0 ro m mb q0l (SB d p s out hp fr) out hp fr s.out s.heap fs f r o h css) {bs:List Nat} (B:Bx0 ro m bs) {nb b1 b2 b3 k:Nat} {m17:Mem} {g:Frame} {x:Instr} (N:New3 m m17 b1 b2 b3 k g.regs g.own g.held) (hnb:m.size<=nb/\nb < m17.size) (hne:nb ≠ b1/\nb ≠ b2/\nb ≠ b3)
  (hfs:fs.length<=100000) (hpc:0<=f.pc/\f.pc<=100000) {R:Value->Mem->Prop}
  (hR1:x.op=24->∀ m',SFin m0 ro m mb d p { s with frames:=fs ++ [{ g with dst:=f.dst }] } m'->R (.tuple #[]) m')
  (hR2:x.op ≠ 24->∀ m',SFin m0 ro m mb d p { s with frames:=fs ++ [{ f with pc:=f.pc+1 },g] } m'->R (.tuple #[]) m') :
  qpv mb nb bs x.op f.pc f.dst g.proc g.pc g.dst (.mk b1 0 k k) (.mk b2 0 k k) (.mk b3 0 k k) m17 R:=by
 have hlo:=N.lo
 have hfl:=S.top.frLen
 have e:w64 ((fr.len:Int) - 1)=(fs.length:Int):=by rw [q07 (by omega) (by omega)]; omega
 have e2:Int.toNat (fs.length:Int)=fs.length:=by omega
 have e4:w64 (f.pc+1)=f.pc+1:=q07 (by omega) (by omega)
 have hnb0:ro nb=0:=S.lay.new _ hnb.1
 have hn17:=N.ext.size
 refine ⟨fun h24=>?_,fun h24=>?_⟩
 ·intro m18
  have N18:New3 m m18 b1 b2 b3 k g.regs g.own g.held:=⟨N.ext.scells hnb.1 _ _,by simp only [m18,q02]; omega,N.kr.congr (q0n _ _ _ _ (fun e=>hne.1 e.symm)),N.ko.congr (q0n _ _ _ _ (fun e=>hne.2.1 e.symm)),N.kh.congr (q0n _ _ _ _ (fun e=>hne.2.2 e.symm)),N.len⟩
  have s18:m18.size=m17.size:=q02 _ _ _ _
  clear_value m18
  have hc:Chg (fun _=>False) ro m (rol3 ro b1 b2 b3 fs.length) m18:=N18.chg S.lay.new
  obtain ⟨a1,a2,a3⟩:=N18.arr (ro:=ro) (n:=fs.length)
  obtain ⟨w1,w2,w3⟩:=S.top.replace hc (f':={ g with dst:=f.dst }) a1 a2 a3
  obtain ⟨L18,t18⟩:=S.lay.setHeap (hc.mono fun _=>False.elim) (S.lay.heap.chg hc id id)
  have g8:gcell m18 mb 8=some (Sl.v fr):=L18.box.get 8
  refine ⟨fr,g8,fr,g8,?_⟩
  rw [e,e2]
  refine ⟨by omega,by omega,w1,?_⟩
  intro m19
  obtain ⟨L19,t19⟩:=L18.setFrames (w3.mono fun k hk=>by omega) w2
  refine ⟨?_,hR1 (by simpa using h24) _ ⟨_,out,hp,fr,L19,t18.trans t19⟩⟩
  intro b hb
  rcases List.mem_cons.1 hb with rfl | hb
  ·refine w3.keep _ (by omega) ?_
   unfold rol3; rw [q1y hne.2.2,q1y hne.2.1,q1y hne.1,hnb0]; decide
  ·refine w3.keep _ (by have:=(B b hb).1; omega) ?_
   rw [hc.role b (B b hb).1,(B b hb).2]; decide
 ·simp only [beq_eq_false_iff_ne] at h24
  rw [e4]
  have hc:Chg (fun _=>False) ro m (rol3 ro b1 b2 b3 (fs.length+1)) m17:=N.chg S.lay.new
  obtain ⟨a1,a2,a3⟩:=N.arr (ro:=ro) (n:=fs.length+1)
  obtain ⟨L17,t17⟩:=S.lay.setHeap (hc.mono fun _=>False.elim) (S.lay.heap.chg hc id id)
  have S17:ST m0 (rol3 ro b1 b2 b3 (fs.length+1)) m17 mb q0l (SB d p s out hp fr) out hp fr s.out s.heap fs f r o h css:=⟨L17,S.top.chg hc fun _ _=>id⟩
  have hB17:Bx0 (rol3 ro b1 b2 b3 (fs.length+1)) m17 (nb :: bs):=fun b hb=>by
   rcases List.mem_cons.1 hb with rfl | hb
   ·refine ⟨by omega,?_⟩
    unfold rol3; rw [q1y hne.2.2,q1y hne.2.1,q1y hne.1,hnb0]
   ·exact ⟨by have:=(B b hb).1; omega,by rw [hc.role b (B b hb).1]; exact (B b hb).2⟩
  -- the step to the next instruction
  apply q73 (mb,0)
  have g8:gcell m17 mb 8=some (Sl.v fr):=S17.lay.box.get 8
  refine ⟨fr,g8,fr,g8,?_⟩
  rw [e,e2]
  refine ⟨by omega,by omega,S17.top.wrPc,?_⟩
  intro m20
  obtain ⟨S20,t20⟩:=S17.setPc (f.pc+1)
  have c20:Chg (fun k=>k=4) (rol3 ro b1 b2 b3 (fs.length+1)) m17 (rol3 ro b1 b2 b3 (fs.length+1)) m20:=Chg.scells S17.lay.new S17.top.blk.1 _ _
  have B20:=hB17.to t20
  refine ⟨t20.samB hB17,fr,S20.lay.box.get 8,?_⟩
  intro m21
  have h2021:Ext m20 m21:=(Ext.refl m20).pushed _
  obtain ⟨S21,t21⟩:=S20.ext h2021
  have B21:=B20.to t21
  have hrow:rowIs m21 m20.size 0 [.i g.proc,.i g.pc,.i g.dst,.s (.mk b1 0 k k),.s (.mk b2 0 k k),.s (.mk b3 0 k k)]:=(Blk.push m20 _ _).row
  have hfl20:(fs ++ [{ f with pc:=f.pc+1 }]).length=fs.length+1:=by simp
  have ch:=fun {k:Nat} {s:Sl} {l:List Ce} (a:Arr (rol3 ro b1 b2 b3 (fs.length+1)) m17 ty_int 1 k s l) (hk:k ≠ 4)=>(a.chg c20 hk).chg (Chg.ofExt (fun _=>False) h2021 S20.lay.new) id
  refine ⟨h2021.keepG (S20.lay.box.get 8),FrmL.push S21.lay.frames S21.lay.new (x:=.mk m20.size 0 1 1) rfl (f:=g) hrow (by rw [hfl20]; exact ch a1 (by omega)) (by rw [hfl20]; exact ch a2 (by omega)) (by rw [hfl20]; exact ch a3 (by omega)) (by rw [hfl20]; omega) fun ro22 q m22 q1 q2=>?_⟩
  have t22:To _ m21 ro22 m22:=q2.mono fun k hk=>by omega
  obtain ⟨L22,t22'⟩:=S21.lay.setFrames (q2.mono fun k hk=>by omega) q1
  have B22:=B21.to t22
  refine ⟨t22.samB B21,L22.wrBox (i:=8) (by simp),?_⟩
  intro m23
  obtain ⟨L23,t23⟩:=L22.setBox 8 [.s q]
  refine ⟨t23.samB B22,hR2 h24 _ ⟨ro22,out,hp,q,?_,(((t17.trans t20).trans t21).trans t22).trans t23⟩⟩
  have e9:fs ++ [{ f with pc:=f.pc+1 }] ++ [g]=fs ++ [{ f with pc:=f.pc+1 },g]:=by simp
  rw [e9] at L23
  exact L23
end
end
section
noncomputable def enterSt (im:Image) (s:St) (fs:List Frame) (f:Frame) (x:Instr):St :=
 if x.op=9 then { s with calls:=s.calls+1,frames:=fs ++ [{ f with pc:=f.pc+1 },q0r im x.num x.dst (words f x.args)] }
 else if x.op=24 then { s with calls:=s.calls+1,frames:=fs ++ [q0r im x.num f.dst (words f x.args)] }
 else { s with calls:=s.calls+1,heap:=apart s.heap (at' f.regs (at' x.args 0)),frames:=fs ++ [{ f with pc:=f.pc+1 },q0r im ((q01 s.heap (at' f.regs (at' x.args 0))).tag - q0j im) x.dst ((q01 s.heap (at' f.regs (at' x.args 0))).fields ++ [at' f.regs (at' x.args 1)])] }
section
variable {m0:Mem} {ro:Nat->Nat} {m:Mem} {mb:Nat} {d p out hp fr:Sl} {s:St} {fs:List Frame} {f:Frame} {r o h:Sl} {css:List (List Ce)}
theorem ST.rv {im:Image} (S:ST m0 ro m mb q0l (SB d p s out hp fr) out hp fr s.out s.heap fs f r o h css) (him:ImageR m0 d p im) (ho:s.out.length<=2000000000) (hh:s.heap.length<=2000000000) (hfr:FrameSl m fr (fs ++ [f])) :
  RV m mb 2 d p out hp fr im { s with frames:=fs ++ [f] } :=
 ⟨him.ext S.lay.base,S.lay.box.get 0,S.lay.box.get 1,S.lay.box.get 2,S.lay.box.get 3,S.lay.box.get 4,S.lay.box.get 5,S.lay.box.get 6,S.lay.box.get 7,S.lay.box.get 8,S.lay.out.ints (by omega),S.lay.heap.cells (by omega),hfr⟩
theorem FrmL.read {fs:List Frame} (hh:FrmL ro m fr fs) (hl:fs.length<=2000000000) (hb:∀ f ∈ fs,f.regs.length<=1000000/\f.own.length<=1000000/\f.held.length<=1000000):FrameSl m fr fs:=by
 obtain ⟨css,h1,h2,h3,h4⟩:=hh
 have hfl:fr.len=fs.length:=by have:=h1.len; rw [q0g h3,h2] at this; omega
 refine ⟨hfl,h1.le,by omega,fun k x hk=>?_⟩
 obtain ⟨cs,hcs⟩:=q00 (l:=css) (k:=k) (by rw [h2]; exact q04 hk)
 obtain ⟨r,o,h,rfl,hr,ho,hh⟩:=h4 k cs x hcs hk
 obtain ⟨q1,q2,q3⟩:=hb x (q05 hk)
 refine ⟨_,⟨r,o,h,rfl,hr.ints (by omega),ho.ints (by omega),hh.ints (by omega)⟩,fun i c hc=>?_⟩
 have:=h1.row (k*6+i) c (q1z h3 hcs hc)
 rwa [← Nat.add_assoc] at this
set_option maxHeartbeats 1000000 in
theorem qqv {im:Image} (S:ST m0 ro m mb q0l (SB d p s out hp fr) out hp fr s.out s.heap fs f r o h css) (him:ImageR m0 d p im) (hok:ImageOk im) {x:Instr} {a j:Sl} (ha:q03 m0 a x.args) (hargs:∀ y ∈ x.args,0<=y/\y < f.regs.length) (hal:x.args.length<=4)
  (hop:x.op=9 \/ x.op=24 \/ x.op=11) (hcall:(x.op=9 \/ x.op=24)->ProcWith im x.num x.args.length) (hap:x.op=11->x.args.length=2/\MayApply im s.heap (at' f.regs (at' x.args 0)))
  (hlen:f.regs.length=f.own.length/\f.held.length=f.own.length/\f.own.length<=2000) (hall:∀ g ∈ fs,g.regs.length<=1000000/\g.own.length<=1000000/\g.held.length<=1000000) (hpc:0<=f.pc/\f.pc<=100000) (hfs:fs.length<=10000) (hhl:s.heap.length<=1000000000) (hout:s.out.length<=1000000000) (hcl:0<=s.calls/\s.calls<=100000)
  {e:Nat->Int} (hI:HInv s.heap e) :
  q08 Tryz.prog q5l [vp mb 0,fv f r o h,xv x a j] m fun _ m'=>SFin m0 ro m mb d p (enterSt im s fs f x) m':=by
 apply qdd (mb,0)
 simp -zeta only [q0a,q09,rI,rS,rB,cI,cB,cS,dI,dB,dS,gk,rg]
 intro m1 m2
 have hx2:Ext m m2:=((Ext.refl m).pushed _).pushed _
 have s1:m1.size=m.size+1:=by simp [m1]
 have s2:m2.size=m.size+2:=by simp [m2,s1]
 have B2:=Bx0.two S.lay.new s1 s2
 have kB:Blk m2 m1.size q2d [.i x.op,.i x.dst,.i x.num,.i x.into,.s a,.s j]:=Blk.push m1 _ _
 obtain ⟨S2,t2⟩:=S.ext hx2
 clear_value m2
 have hcO:CallOk im x:=fun e=>let ⟨q,h1,h2,_⟩:=hcall e; ⟨h1,q,h2⟩
 have h12:(q17 im.decls).length<=12:=by
  have:=fc_12 hok.sigs.types im.decls.length
  rw [fc_all _ _ (Nat.le_refl _)] at this; exact this
 have hfrm:∀ {ro m hp lh bx},ST m0 ro m mb q0l bx out hp fr s.out lh fs f r o h css->FrameSl m fr (fs ++ [f]):=fun S=>S.lay.frames.read (by simp; omega) (fun g hg=>by
  rcases List.mem_append.1 hg with hg | hg
  ·exact hall g hg
  ·simp at hg; subst hg; omega)
 refine (q9c (f:=f) (S2.regSl (by omega)) (ha.ext S2.lay.base) hargs (by omega)).mono ?_
 rintro _ m3 ⟨ws,rfl,ow,h23⟩
 obtain ⟨S3,t3⟩:=S2.ext h23
 have B3:=B2.to t3
 have hwl:(words f x.args).length=x.args.length:=by simp [words]
 have iw3:q03 m3 ws (words f x.args):=q03.ofOwn ow (by omega)
 have own0:∀ {m':Mem} {ws:Sl} {l:List Ce},Own m' m3 ty_int 1 ws l->m.size<=m'.size->ws ≠ .nil->ro ws.blk=0:=fun ho hs hne=>by
  rcases ho.blk with e | e
  ·exact absurd e hne
  ·exact S.lay.new _ (by omega)
 refine ⟨t3.samB B2,ws,rfl,fun g wv m'=>∃ (ro':Nat->Nat) (hp':Sl) (lh':List Cell) (wl:List Int) (q:Proc),ST m0 ro' m' mb q0l (SB d p s out hp' fr) out hp' fr s.out lh' fs f r o h css/\To ro m ro' m'/\Bx0 ro' m' [m1.size,m.size]/\Blk m' m1.size q2d [.i x.op,.i x.dst,.i x.num,.i x.into,.s a,.s j]/\q03 m' wv wl/\(wl ≠ []->ro' wv.blk=0) /\
   0<=g/\im.procs[g.toNat]?=some q/\wl.length=q.params.length/\ownArg im x 0 wl=q10 q.lent 0 wl /\
   (x.op=24->enterSt im s fs f x={ s with calls:=s.calls+1,heap:=lh',frames:=fs ++ [q0r im g f.dst wl] })/\(x.op ≠ 24->enterSt im s fs f x={ s with calls:=s.calls+1,heap:=lh',frames:=fs ++ [{ f with pc:=f.pc+1 },q0r im g x.dst wl] }),?_,?_⟩
 ·refine ⟨fun h11=>?_,fun h11=>?_⟩
  ·simp at h11
   obtain ⟨h2,hlv,ht0,ht1,hpar,hlent,hfit⟩:=hap h11
   obtain ⟨hcc,hpos⟩:=q0i hlv
   have hCO:=hI.cell _ (q05 hcc)
   have htag:=(hCO.alive hpos).2
   have hlt:=q04 hcc
   have hargs2:x.args=[at' x.args 0,at' x.args 1]:=by
    cases hx:x.args with
    | nil=>rw [hx] at h2; simp at h2
    | cons y l=>cases l with
     | nil=>rw [hx] at h2; simp at h2
     | cons z l=>cases l with
      | nil=>rfl
      | cons _ _=>rw [hx] at h2; simp at h2
   have hw2:words f x.args=[at' f.regs (at' x.args 0),at' f.regs (at' x.args 1)]:=by rw [hargs2]; rfl
   have hwsl:=iw3.len
   have hwsc:=iw3.cap
   have gw:gcell m3 ws.blk (ws.off+Int.toNat (0:Int)*1)=some (vi (at' f.regs (at' x.args 0))):=iw3.at' (k:=0) (by rw [hw2]; rfl)
   have hV3:=S3.rv him (by omega) (by omega) (hfrm S3)
   generalize hw:at' f.regs (at' x.args 0)=w at *
   generalize hv:at' f.regs (at' x.args 1)=v at *
   obtain ⟨q,hq⟩:=q00 (l:=im.procs) (k:=((q01 s.heap w).tag - q0j im).toNat) (by omega)
   have hqe:q0y im ((q01 s.heap w).tag - q0j im)=q:=by simp [q0y,hq]
   rw [hqe] at hpar hlent
   refine ⟨by omega,by omega,w,gw,d,hV3.decls,(q1x hV3 hlv.1 hcc).mono ?_⟩
   rintro _ m4 ⟨f4,rfl,hf4,h34⟩
   obtain ⟨S4,t4⟩:=S3.ext h34
   have B4:=B3.to t4
   have hV4:=hV3.ext h34
   refine ⟨t4.samB B3,_,_,_,rfl,h34.keepG hV3.decls,(q8r hV4.image.decls hok.sigs.types).mono ?_⟩
   rintro _ m5 ⟨rfl,h45⟩
   obtain ⟨S5,t5⟩:=S4.ext h45
   have B5:=B4.to t5
   have hV5:=hV4.ext h45
   refine ⟨t5.samB B4,_,rfl,by omega,by omega,by omega,(q1x hV5 hlv.1 hcc).mono ?_⟩
   rintro _ m6 ⟨f6,rfl,hf6,h56⟩
   obtain ⟨S6,t6⟩:=S5.ext h56
   have B6:=B5.to t6
   have h36:=(h34.trans h45).trans h56
   have e1:(Int.toNat (1:Int))=1:=rfl
   have e2:(Int.toNat (ws.len:Int))=ws.len:=by omega
   rw [e1,e2]
   have icut:q03 m6 (Sl.cut ws 1 ws.len 1) [v]:=by
    have:=cut1 (iw3.ext h36) (by rw [hwl]; omega)
    rw [hw2] at this; exact this
   have hfl3:=hCO.fl
   refine ⟨t6.samB B5,_,_,_,rfl,(qpm hf6 icut (by simp; omega)).mono ?_⟩
   rintro _ m7 ⟨es,rfl,oe,h67⟩
   obtain ⟨S7,t7⟩:=S6.ext h67
   have B7:=B6.to t7
   have ie:q03 m7 es ((q01 s.heap w).fields ++ [v]):=q03.ofOwn oe (by simp; omega)
   have hes0:ro es.blk=0:=by
    rcases oe.blk with e | e
    ·subst e; have:=ie.len; simp at this
    ·exact S.lay.new _ (by have:=h36.size; have:=h23.size; omega)
   have hesl:es.blk < m7.size:=q2c ie (by simp)
   refine ⟨t7.samB B6,es,rfl,(qfo S7.lay hlv hI (by omega)).mono ?_⟩
   rintro _ m8 ⟨b,rfl,hb,c8,hbt8,hbf8⟩
   have t8:To ro m7 ro m8:=c8.mono fun k hk=>by omega
   have B8:=B7.to t8
   have ie8:q03 m8 es ((q01 s.heap w).fields ++ [v]):=q2t ie fun _=>c8.keep _ hesl (by rw [hes0]; decide)
   have t38:To ro m ro m8:=(((((t2.trans t3).trans t4).trans t5).trans t6).trans t7).trans t8
   have kB8:Blk m8 m1.size q2d [.i x.op,.i x.dst,.i x.num,.i x.into,.s a,.s j]:=(kB.ext (h23.trans (h36.trans h67))).congr (c8.keep _ (B7 m1.size (by simp)).1 (by rw [(B7 m1.size (by simp)).2]; decide))
   have e3:w64 ((q01 s.heap w).tag - ((q17 im.decls).length:Int))=(q01 s.heap w).tag - q0j im:=q07 (by omega) (by omega)
   rw [e3]
   have hown:ownArg im x 0 ((q01 s.heap w).fields ++ [v])=q10 q.lent 0 ((q01 s.heap w).fields ++ [v]):=by
    rw [qjz (by omega),List.length_eq_zero_iff.1 hlent]
   have hent:∀ lh',lh'=apart s.heap w->enterSt im s fs f x={ s with calls:=s.calls+1,heap:=lh',frames:=fs ++ [{ f with pc:=f.pc+1 },q0r im ((q01 s.heap w).tag - q0j im) x.dst ((q01 s.heap w).fields ++ [v])] }:=fun lh' e=>by
    rw [enterSt,if_neg (by omega),if_neg (by omega),hw,hv,e]
   refine ⟨t8.samB B7,b,rfl,fun hbt=>?_,fun hbf=>?_⟩
   ·have hone:=hb.1 hbt
    obtain ⟨S8,t8'⟩:=S7.setHeap (c8.mono fun k hk=>Or.inl hk) (hbt8 hbt)
    have hlen8:=S8.lay.heap.len
    refine ⟨hp,S8.lay.box.get 7,?_⟩
    intro m9
    have h89:Ext m8 m9:=(Ext.refl m8).pushed _
    obtain ⟨S9,t9⟩:=S8.ext h89
    have B9:=B8.to t9
    clear_value m9
    have hl1:=hlv.1
    have hix:ix w=(w - 1000).toNat:=rfl
    have e5:w64 (w - 1000)=w - 1000:=q07 (by omega) (by omega)
    rw [e5,← hix]
    refine ⟨by omega,by omega,S9.lay.heap.wr (o:=0) hlt (by decide),?_⟩
    intro m10
    obtain ⟨hh10,c10⟩:=S9.lay.heap.setCell S9.lay.new hlt 0 0 (f:=.mk m8.size 0 0 0) (l:=[]) ⟨rfl,by simp,by simp,by simp⟩ (fun hne=>absurd rfl hne)
    obtain ⟨S10,t10⟩:=S9.setHeap (c10.mono fun k hk=>Or.inl hk) hh10
    have B10:=B9.to t10
    refine ⟨t10.samB B9,hp,S10.lay.box.get 7,(qcz (S10.lay.heap.cells (by simp; omega))).mono ?_⟩
    rintro _ m11 ⟨rfl,h1011⟩
    obtain ⟨S11,t11⟩:=S10.ext h1011
    have B11:=B10.to t11
    refine ⟨t11.samB B10,_,rfl,S11.lay.wrBox (i:=7) (by simp),?_⟩
    intro m12
    obtain ⟨S11',t11'⟩:=S11.setHeap (Chg.refl _ S11.lay.new) (S11.lay.heap.cut (q8i _ _))
    obtain ⟨S12,t12⟩:=S11'.setBox 7 [.s (hp.cut 0 (trimN (s.heap.set (ix w) free) (s.heap.set (ix w) free).length) 3)]
    have B12:=B11.to t12
    have t812:To ro m8 ro m12:=((t9.trans t10).trans t11).trans t12
    have ie12:q03 m12 es ((q01 s.heap w).fields ++ [v]):=q2t ie8 fun _=>t812.keep _ (by have:=c8.size; omega) (by rw [hes0]; simp)
    have kB12:Blk m12 m1.size q2d [.i x.op,.i x.dst,.i x.num,.i x.into,.s a,.s j]:=kB8.congr (t812.keep _ (B8 m1.size (by simp)).1 (by rw [(B8 m1.size (by simp)).2]; simp))
    refine ⟨t12.samB B11,ro,_,_,_,q,S12,t38.trans t812,B12,kB12,ie12,fun _=>hes0,ht0,hq,by simp; omega,hown,fun e=>by omega,fun _=>hent _ ?_⟩
    rw [apart,if_pos hone]; rfl
   ·have hone:(q01 s.heap w).count ≠ 1:=fun e=>by have:=hb.2 e; rw [hbf] at this; simp at this
    obtain ⟨S8,t8'⟩:=S7.setHeap (c8.mono fun k hk=>Or.inl hk) (hbf8 hbf)
    refine ⟨ro,hp,_,_,q,S8,t38,B8,kB8,ie8,fun _=>hes0,ht0,hq,by simp; omega,hown,fun e=>by omega,fun _=>hent _ ?_⟩
    rw [apart,if_neg hone]
  ·simp at h11
   have hc9:x.op=9 \/ x.op=24:=by omega
   obtain ⟨q,hq0,hq1,hq2⟩:=hcall hc9
   have hqe:q0y im x.num=q:=by simp [q0y,hq1]
   refine ⟨ro,hp,s.heap,words f x.args,q,S3,t2.trans t3,B3,kB.ext h23,iw3,fun hne=>own0 ow (by omega) (fun e=>by subst e; have:=iw3.len; simp at this; exact hne (List.length_eq_zero_iff.1 this.symm)),hq0,hq1,by omega,by rw [qm0 hc9,hqe],fun e=>?_,fun e=>?_⟩
   ·rw [enterSt,if_neg (by omega),if_pos e]
   ·rw [enterSt,if_pos (by omega)]
 ·rintro g wv m4 ⟨ro4,hp4,lh4,wl,q,S4,t4,B4,kB4,iw4,hw0,hg0,hq,hwq,hown,hE1,hE2⟩
  have hqe:q0y im g=q:=by simp [q0y,hq]
  have hreg:=(hok.each q (q05 hq)).regs
  have h3:=(hok.sigs.each q (q05 hq)).1
  refine ⟨s.calls,S4.lay.box.get 4,S4.lay.wrBox (i:=4) (by simp),?_⟩
  have e3:w64 (s.calls+1)=s.calls+1:=q07 (by omega) (by omega)
  rw [e3]
  intro m5
  obtain ⟨S5,t5⟩:=S4.setBox 4 [.i (s.calls+1)]
  have B5:Bx0 ro4 m5 [m1.size,m.size]:=B4.to t5
  replace t5:To ro4 m4 ro4 m5:=t5
  have c5:Chg (fun k=>k=1) ro4 m4 ro4 m5:=Chg.scells S4.lay.new S4.lay.rob _ _
  have iw5:q03 m5 wv wl:=q2t iw4 fun hne=>c5.keep _ (q2c iw4 hne) (by rw [hw0 hne]; decide)
  have kB5:Blk m5 m1.size q2d [.i x.op,.i x.dst,.i x.num,.i x.into,.s a,.s j]:=kB4.congr (c5.keep _ (B4 m1.size (by simp)).1 (by rw [(B4 m1.size (by simp)).2]; decide))
  replace S5:ST m0 ro4 m5 mb q0l (SB d p { s with calls:=s.calls+1,heap:=lh4 } out hp4 fr) out hp4 fr s.out lh4 fs f r o h css:=S5
  refine ⟨t5.samB B4,d,S5.lay.box.get 0,p,S5.lay.box.get 1,?_⟩
  clear_value m5
  have t05:=t4.trans t5
  have kg:∀ {ma mb':Mem},Ext ma mb'->∀ {b i:Nat} {v:Value},gcell ma b i=some v->gcell mb' b i=gcell ma b i:=fun hx=>hx.keepG
  have hol:(ownArg im x 0 wl).length=wl.length:=qg8 _ _ _ _
  have hgr:(q0r im g x.dst wl).regs=wl ++ q0p (q.regs.toNat - wl.length):=by simp [q0r,hqe]
  have hgo:(q0r im g x.dst wl).own=ownArg im x 0 wl ++ q0p (q.regs.toNat - (ownArg im x 0 wl).length):=by simp [q0r,hqe,hown,q4o]
  have hgh:(q0r im g x.dst wl).held=q0p q.regs.toNat:=by simp [q0r,hqe]
  have fin:∀ (M M17:Mem) (nb b1 b2 b3:Nat),Ext m5 M->New3 M M17 b1 b2 b3 q.regs.toNat (wl ++ q0p (q.regs.toNat - wl.length)) (ownArg im x 0 wl ++ q0p (q.regs.toNat - (ownArg im x 0 wl).length)) (q0p q.regs.toNat)->M.size<=nb/\nb < M17.size->nb ≠ b1/\nb ≠ b2/\nb ≠ b3 ->
    qpv mb nb [m1.size,m.size] x.op f.pc f.dst g 0 x.dst (.mk b1 0 q.regs.toNat q.regs.toNat) (.mk b2 0 q.regs.toNat q.regs.toNat) (.mk b3 0 q.regs.toNat q.regs.toNat) M17 (fun _ m'=>SFin m0 ro m mb d p (enterSt im s fs f x) m'):=fun M M17 nb b1 b2 b3 hx N hnb hne=>by
   obtain ⟨SM,tM⟩:=S5.ext hx
   refine qr9 (s:={ s with calls:=s.calls+1,heap:=lh4 }) (g:=q0r im g x.dst wl) (x:=x) SM (B5.to tM) (by rw [hgr,hgo,hgh]; exact N) hnb hne (by omega) hpc (fun e m' hF=>?_) (fun e m' hF=>?_)
   ·rw [hE1 e]; exact SFin.from hF (t05.trans tM)
   ·rw [hE2 e]; exact SFin.from hF (t05.trans tM)
  have frame:∀ {M:Mem} {os:Sl},Ext m5 M->q03 M os (ownArg im x 0 wl)->q08 Tryz.prog q4j [.agg #[Sl.v d,Sl.v p],vi g,vi x.dst,Sl.v wv,Sl.v os] M _:=fun hx ho=>qov (him.ext (S5.lay.base.trans hx)) hg0 hq (by omega) x.dst (iw5.ext hx) ho (by omega) hol
  have nine:∀ {ma mc:Mem},Ext m5 ma->Ext ma mc->∀ i,i < 6->gcell mc m1.size i=gcell ma m1.size i:=fun h1 h2 i hi=>by
   have k:=kB5.ext h1
   match i,hi with
   | 0,_=>exact h2.keepG (k.get 0)
   | 1,_=>exact h2.keepG (k.get 1)
   | 2,_=>exact h2.keepG (k.get 2)
   | 3,_=>exact h2.keepG (k.get 3)
   | 4,_=>exact h2.keepG (k.get 4)
   | 5,_=>exact h2.keepG (k.get 5)
  have two:∀ {ma mc:Mem},Ext m5 ma->Ext ma mc->gcell mc mb 0=gcell ma mb 0/\gcell mc mb 1=gcell ma mb 1:=fun h1 h2=>⟨h2.keepG (h1.gcell (S5.lay.box.get 0)),h2.keepG (h1.gcell (S5.lay.box.get 1))⟩
  have owned:∀ {M:Mem},Ext m5 M->GivesI q2o [vp mb 0,xv x a j,Sl.v wv] M (ownArg im x 0 wl):=fun hx=>qk7 (him.ext (S5.lay.base.trans hx)) (hx.gcell (S5.lay.box.get 0)) (hx.gcell (S5.lay.box.get 1)) hcO a j (iw5.ext hx) (by omega)
  have sm:∀ {ma mc:Mem},Ext m5 ma->Ext ma mc->Sam [m1.size,m.size] ma mc:=fun h1 h2=>h2.sam fun b hb=>h1.lt (B5 b hb).1
  have sm3:∀ {ma mc:Mem} {nb:Nat},Ext m5 ma->Ext ma mc->nb < ma.size->Sam [nb,m1.size,m.size] ma mc:=fun h1 h2 hnb=>h2.sam fun b hb=>by
   rcases List.mem_cons.1 hb with rfl | hb
   ·exact hnb
   ·exact h1.lt (B5 b hb).1
  refine ⟨(owned (Ext.refl _)).mono ?_,?_⟩
  ·rintro _ m14 ⟨os,rfl,oo,h14⟩
   have io:q03 m14 os (ownArg im x 0 wl):=q03.ofOwn oo (by omega)
   refine ⟨sm (Ext.refl _) h14,os,rfl,nine (Ext.refl _) h14 1 (by omega),(two (Ext.refl _) h14).1,(two (Ext.refl _) h14).2,?_,?_⟩
   ·refine (frame h14 io).mono ?_
    rintro _ m15 ⟨b1,b2,b3,rfl,N⟩
    have h15:=N.ext
    have h515:=h14.trans h15
    refine ⟨sm h14 h15,_,_,_,_,_,_,rfl,?_⟩
    intro m16
    have h1516:Ext m15 m16:=(Ext.refl m15).pushed _
    have n9:=nine h515 h1516
    have t9:=two h515 h1516
    refine ⟨n9 0 (by omega),n9 1 (by omega),n9 2 (by omega),n9 3 (by omega),n9 4 (by omega),n9 5 (by omega),n9 1 (by omega),t9.1,t9.2,?_⟩
    intro m17
    have h1517:Ext m15 m17:=h1516.scells (Nat.le_refl _) _ _
    have s17:m17.size=m15.size+1:=by simp [m17,m16,q02]
    have hlo:=N.lo
    exact fin m14 m17 m15.size b1 b2 b3 h14 (N.ext' h1517) ⟨by have:=h15.size; omega,by omega⟩ ⟨by omega,by omega,by omega⟩
   ·intro m24
    have h1424:Ext m14 m24:=(Ext.refl m14).pushed _
    have s24:m24.size=m14.size+1:=by simp [m24]
    have n9:=nine h14 h1424
    have t9:=two h14 h1424
    refine ⟨n9 0 (by omega),n9 1 (by omega),n9 2 (by omega),n9 3 (by omega),n9 4 (by omega),n9 5 (by omega),n9 1 (by omega),t9.1,t9.2,?_⟩
    clear_value m24
    refine (frame (h14.trans h1424) (io.ext h1424)).mono ?_
    rintro _ m25 ⟨b1,b2,b3,rfl,N⟩
    have h25:=N.ext
    refine ⟨sm3 (h14.trans h1424) h25 (by omega),_,_,_,_,_,_,rfl,?_⟩
    intro m26
    have hlo:=N.lo
    have N26:=N.box h1424 (nb:=m14.size) (Nat.le_refl _) (by omega) 0 [.i g,.i 0,.i x.dst,.s (.mk b1 0 q.regs.toNat q.regs.toNat),.s (.mk b2 0 q.regs.toNat q.regs.toNat),.s (.mk b3 0 q.regs.toNat q.regs.toNat)]
    exact fin m14 m26 m14.size b1 b2 b3 h14 N26 ⟨Nat.le_refl _,by simp only [m26,q02]; have:=h25.size; omega⟩ ⟨by omega,by omega,by omega⟩
  ·intro m33
   have h33:Ext m5 m33:=(Ext.refl m5).pushed _
   have s33:m33.size=m5.size+1:=by simp [m33]
   have n9:=nine (Ext.refl _) h33
   have t9:=two (Ext.refl _) h33
   refine ⟨n9 0 (by omega),n9 1 (by omega),n9 2 (by omega),n9 3 (by omega),n9 4 (by omega),n9 5 (by omega),n9 1 (by omega),t9.1,t9.2,?_⟩
   clear_value m33
   refine (owned h33).mono ?_
   rintro _ m34 ⟨os,rfl,oo,h34⟩
   have io:q03 m34 os (ownArg im x 0 wl):=q03.ofOwn oo (by omega)
   have h534:=h33.trans h34
   have s34:=h34.size
   refine ⟨sm3 h33 h34 (by omega),os,rfl,nine h33 h34 1 (by omega),(two h33 h34).1,(two h33 h34).2,?_⟩
   refine (frame h534 io).mono ?_
   rintro _ m35 ⟨b1,b2,b3,rfl,N⟩
   have h35:=N.ext
   refine ⟨sm3 h534 h35 (by omega),_,_,_,_,_,_,rfl,?_⟩
   intro m36
   have hlo:=N.lo
   have N36:=N.box h534 (nb:=m5.size) (Nat.le_refl _) (by omega) 0 [.i g,.i 0,.i x.dst,.s (.mk b1 0 q.regs.toNat q.regs.toNat),.s (.mk b2 0 q.regs.toNat q.regs.toNat),.s (.mk b3 0 q.regs.toNat q.regs.toNat)]
   exact fin m5 m36 m5.size b1 b2 b3 (Ext.refl _) N36 ⟨Nat.le_refl _,by simp only [m36,q02]; have:=h35.size; omega⟩ ⟨by omega,by omega,by omega⟩
theorem qqk (S:ST m0 ro m mb q0l (SB d p s out hp fr) out hp fr s.out s.heap fs f r o h css) (hfs:fs.length<=100000) (w:Int) (hdst:∀ g,fs.getLast?=some g->0<=f.dst/\f.dst < g.regs.length/\f.dst < g.own.length) :
  q08 Tryz.prog q5v [vp mb 0,fv f r o h,vi w] m fun _ m'=>SFin m0 ro m mb d p (match fs.getLast? with | none=>{ s with status:=0,value:=w,frames:=[] } | some g=>{ s with frames:=fs.dropLast ++ [g.put f.dst w (q1g w)] }) m':=by
 apply qd8 (mb,0)
 simp -zeta only [q0a,q09,rI,rS,rB,cI,cB,cS,dI,dB,dS,gk,rg]
 intro m1
 have hx1:Ext m m1:=(Ext.refl m).pushed _
 have s1:m1.size=m.size+1:=by simp [m1]
 obtain ⟨S1,t1⟩:=S.ext hx1
 have hb0:ro m.size=0:=S.lay.new _ (Nat.le_refl _)
 have B1:Bx0 ro m1 [m.size]:=fun b hb=>by simp at hb; subst hb; exact ⟨by omega,hb0⟩
 clear_value m1
 have hfl:=S1.top.frLen
 have hcap:=S1.top.arr.le
 have e:w64 ((fr.len:Int) - 1)=(fs.length:Int):=by rw [q07 (by omega) (by omega)]; omega
 have e2:Int.toNat (fs.length:Int)=fs.length:=by omega
 have g8:gcell m1 mb 8=some (Sl.v fr):=S1.lay.box.get 8
 refine ⟨fr,g8,fr,g8,?_⟩
 rw [e,e2]
 refine ⟨by omega,by omega,by omega,S1.lay.wrBox (i:=8) (by simp),?_⟩
 intro m2
 obtain ⟨L2,t2⟩:=S1.lay.setBox 8 [.s (fr.cut 0 fs.length 6)]
 obtain ⟨L2',_⟩:=L2.setFrames (Chg.refl _ L2.new) (L2.frames.pop)
 have B2:=B1.to t2
 have hcl:(fr.cut 0 fs.length 6).len=fs.length:=by
  cases fr with
  | nil=>simp at hfl
  | emp b o' sp=>simp at hfl
  | mk b o' l c=>simp [Sl.cut]
 have e3:Int.toNat (0:Int)=0:=rfl
 refine ⟨t2.samB B1,fr.cut 0 fs.length 6,L2'.box.get 8,fun h1=>?_,fun h1=>?_⟩
 ·simp at h1
  have hfs0:fs=[]:=List.length_eq_zero_iff.1 (by omega)
  subst hfs0
  refine ⟨L2'.wrBox (i:=2) (by simp [q3y]),?_⟩
  intro m3
  obtain ⟨L3,t3⟩:=L2'.setBox 2 [.i 0]
  have B3:=B2.to t3
  refine ⟨t3.samB B2,L3.wrBox (i:=3) (by simp [q3y]),?_⟩
  intro m4
  obtain ⟨L4,t4⟩:=L3.setBox 3 [.i w]
  exact ⟨t4.samB B3,ro,out,hp,_,L4,(((t1.trans t2).trans t3).trans t4)⟩
 ·simp at h1
  have hn0:fs.length ≠ 0:=by omega
  have hne:fs ≠ []:=fun e=>hn0 (by rw [e]; rfl)
  obtain ⟨g,hg⟩:∃ g,fs.getLast?=some g:=⟨_,List.getLast?_eq_some_getLast hne⟩
  obtain ⟨hd0,hd1,hd2⟩:=hdst g hg
  rw [hg]
  simp only []
  have hfs':fs=fs.dropLast ++ [g]:=by
   rw [List.getLast?_eq_some_getLast hne] at hg
   simp at hg
   rw [← hg]; exact (List.dropLast_concat_getLast hne).symm
  have L2'':Lay m0 ro m2 mb q0l (SB d p s out hp (fr.cut 0 fs.length 6)) out hp (fr.cut 0 fs.length 6) s.out s.heap (fs.dropLast ++ [g]) :=
   ⟨L2'.base,L2'.base0,L2'.new,L2'.box,L2'.rob,L2'.out,L2'.heap,by rw [← hfs']; exact L2'.frames⟩
  obtain ⟨r',o',h',css',T⟩:=L2''.frames.top
  have hdl:fs.dropLast.length<=100000:=by simp; omega
  refine (qa8 (s:=s) ⟨L2'',T⟩ hdl hd0 hd1 hd2 w).mono ?_
  rintro _ m3 ⟨S3,t3⟩
  exact ⟨t3.samB B2,ro,out,hp,_,S3.lay,(t1.trans t2).trans t3⟩
end
end
section
theorem Cur.HE {im:Image} {s:St} {fs:List Frame} {f:Frame} {x:Instr} (C:Cur im s fs f x) {own:List Int} (ho:own=q0c f.regs f.own (taken im x)) (hnn:∀ o ∈ own,0<=o) :
  HInv s.heap (fun b=>owns fs b+q0m f.regs own b+occ ((taken im x).map (at' f.regs)) b)/\∀ b,0<=owns fs b+q0m f.regs own b:=by
 have how:=qcx (regs:=f.regs) (taken im x) f.own C.takenIn C.lens.1
 rw [← ho] at how
 refine ⟨C.ok.heap.congr fun b=>?_,fun b=>?_⟩
 ·rw [C.fr,q1u,q3t,how]; omega
 ·have:=qki (fs:=fs) (fun g hg=>C.ok.frames g (by rw [C.fr]; exact List.mem_append_left _ hg)) b
  have:=q8m (regs:=f.regs) hnn b
  omega
theorem qt1 {ds:List Decl} {t tag:Int} (h:tag ∈ q1h ds t):1<=t/\t<=ds.length/\(idxOf (q1h ds t) tag:Int)=tag - fc ds (t.toNat - 1)/\(fc ds (t.toNat - 1):Int)<=tag:=by
 unfold q1h at h ⊢
 by_cases ht:1<=t/\t<=ds.length
 ·rw [if_pos ht] at h ⊢
  obtain ⟨dd,hd⟩:=q00 (l:=ds) (k:=t.toNat - 1) (by omega)
  rw [hd] at h ⊢
  simp only [Option.map_some,Option.getD_some] at h ⊢
  obtain ⟨i,hi,he⟩:=List.mem_map.1 h
  rw [List.mem_range] at hi
  have hidx:idxOf ((List.range dd.cons.length).map fun i=>((fc ds (t.toNat - 1)+i:Nat):Int)) tag=i:=by
   unfold idxOf
   rw [List.findIdx_eq (by simpa using hi)]
   refine ⟨by simp [← he],fun j hj=>?_⟩
   simp
   omega
  rw [hidx]
  exact ⟨ht.1,ht.2,by omega,by omega⟩
 ·rw [if_neg ht] at h; simp at h
theorem qrm {op a b:Int} (ha:isInt a) (hb:isInt b) (m:Mem):Gets Tryz.prog qem [vi op,vi a,vi b] m (vi (prim op a b)):=by
 have hcl:∀ n:Int,-2000000<=n/\n<=2000000->Gets Tryz.prog q6i [vi (w64 n)] m (vi (clamp n)):=fun n hn=>by
  apply qmh
  rw [q07 (by omega) (by omega)]
  refine ⟨?_,Ext.refl _⟩
  unfold clamp
  congr 1
  repeat' split
  all_goals omega
 unfold isInt at ha hb
 have hm:-2000000<=a*b/\a*b<=2000000:=by
  have h1:(a*b).natAbs<=999*999:=by rw [Int.natAbs_mul]; exact Nat.mul_le_mul (by omega) (by omega)
  omega
 apply qou
 unfold prim
 refine ⟨fun h1=>?_,fun h1=>⟨fun h2=>?_,fun h2=>⟨fun h3=>?_,fun h3=>⟨fun h4=>⟨fun h5=>?_,fun h5=>?_⟩,fun h4=>?_⟩⟩⟩⟩
 ·simp at h1; rw [if_pos h1]
  exact (hcl _ (by omega)).then fun m' hx=>⟨_,rfl,rfl,hx⟩
 ·simp at h1 h2; rw [if_neg h1,if_pos h2]
  exact (hcl _ (by omega)).then fun m' hx=>⟨_,rfl,rfl,hx⟩
 ·simp at h1 h2 h3; rw [if_neg h1,if_neg h2,if_pos h3]
  exact (hcl _ hm).then fun m' hx=>⟨_,rfl,rfl,hx⟩
 ·simp at h1 h2 h3 h4 h5; rw [if_neg h1,if_neg h2,if_neg h3,if_pos ⟨h4,h5⟩]; exact ⟨rfl,Ext.refl _⟩
 ·simp at h1 h2 h3 h4 h5; rw [if_neg h1,if_neg h2,if_neg h3,if_neg (by omega)]; exact ⟨rfl,Ext.refl _⟩
 ·simp at h1 h2 h3 h4; rw [if_neg h1,if_neg h2,if_neg h3,if_neg (by omega)]; exact ⟨rfl,Ext.refl _⟩
section
variable {m0:Mem} {ro:Nat->Nat} {m:Mem} {mb:Nat} {d p out hp fr:Sl} {s:St} {fs:List Frame} {f:Frame} {r o h:Sl} {css:List (List Ce)}
set_option maxHeartbeats 2000000 in
theorem qoq {im:Image} {x:Instr} (C:Cur im s fs f x) {own:List Int} (hown:own=q0c f.regs f.own (taken im x)) (hM:MayRun im s f x own)
  (S:ST m0 ro m mb q0l (SB d p s out hp fr) out hp fr s.out s.heap fs { f with own:=own } r o h css) (him:ImageR m0 d p im) {a j:Sl} (ha:q03 m0 a x.args) (hj:q03 m0 j x.jumps) (hhl:s.heap.length<=900000000) (hout:s.out.length<=900000000) :
  q08 Tryz.prog q40 [vp mb 0,fv f r o h,xv x a j] m fun _ m'=>SFin m0 ro m mb d p (perform im s fs f x own) m':=by
 apply qbp (mb,0)
 simp -zeta only [q0a,q09,rI,rS,rB,cI,cB,cS,dI,dB,dS,gk,rg]
 intro m1 m2
 have hx2:Ext m m2:=((Ext.refl m).pushed _).pushed _
 have s1:m1.size=m.size+1:=by simp [m1]
 have s2:m2.size=m.size+2:=by simp [m2,s1]
 have B2:=Bx0.two S.lay.new s1 s2
 have kB:Blk m2 m1.size q2d [.i x.op,.i x.dst,.i x.num,.i x.into,.s a,.s j]:=Blk.push m1 _ _
 have kF:Blk m2 m.size q1l [.i f.proc,.i f.pc,.i f.dst,.s r,.s o,.s h]:=(Blk.push m _ _).ext (Ext.push m1 _)
 obtain ⟨S2,t2⟩:=S.ext hx2
 clear_value m2
 have hol:own.length=f.own.length:=by rw [hown]; exact q3c _ _ _
 have hlens:=C.lens
 have h4:=C.args4
 have hd:=C.dst
 have hpcF:=C.F.pc
 obtain ⟨pq,_,hpe,hP,hcode,hI⟩:=C.I
 rw [hpe] at hpcF
 have hpl:=hP.len
 have hpc:0<=f.pc/\f.pc<=100000:=by omega
 have hdep:=C.ok.depth
 have hcalls:=C.ok.calls
 have hmost:=C.ok.most
 rw [C.fr] at hdep
 have hfs:fs.length<=1000:=by simp at hdep; omega
 have hlen3:f.regs.length=own.length/\f.held.length=own.length/\own.length<=2000:=by omega
 have hrl:r.len=f.regs.length:=by have:=S.top.regs.len; simp at this; omega
 have hoL:o.len=own.length:=by have:=S.top.own.len; simp at this; omega
 have hal:=ha.len
 have e4:w64 (f.pc+1)=f.pc+1:=q07 (by omega) (by omega)
 have arg0:1<=x.args.length->0<=at' x.args 0/\at' x.args 0 < f.regs.length:=fun h1=>C.arg _ (q18 (by omega) (by omega))
 have ga:∀ {m'},Ext m0 m'->1<=x.args.length->gcell m' a.blk (a.off+Int.toNat (0:Int)*1)=some (vi (at' x.args 0)):=fun hx h1=>(ha.ext hx).atI (by omega) (by omega)
 have gr:∀ {ro m bx out hp fr lo lh o h css own'},ST m0 ro m mb q0l bx out hp fr lo lh fs { f with own:=own' } r o h css->∀ {i:Int},0<=i->i < f.regs.length->gcell m r.blk (r.off+Int.toNat i*1)=some (vi (at' f.regs i)):=fun S i h0 h1=>(S.regSl (by simp only []; omega)).atI h0 h1
 have hHE:=C.HE hown hM.nn
 have hfrm:∀ {ro m hp lh bx},ST m0 ro m mb q0l bx out hp fr s.out lh fs { f with own:=own } r o h css->FrameSl m fr (fs ++ [{ f with own:=own }]):=fun S=>S.lay.frames.read (by simp; omega) (fun g hg=>by
  rcases List.mem_append.1 hg with hg | hg
  ·have hF:=C.ok.frames g (by rw [C.fr]; exact List.mem_append_left _ hg)
   obtain ⟨pg,_,hge,hPg,_⟩:=hF.instr C.ok.image
   have h1:=hF.lr
   have h2:=hF.lo
   have h3:=hF.lh
   rw [hge] at h1 h2 h3
   have:=hPg.regs
   omega
  ·simp at hg; subst hg; simp only []; omega)
 have intR:∀ r',r' ∈ x.args->at' f.regs r' < 1000->isInt (at' f.regs r'):=fun r' hr' hlt=>by
  have hin:=C.arg r' hr'
  rcases C.F.reg _ (q18 hin.1 hin.2) with h5 | h5
  ·exact h5
  ·omega
 -- one register is set
 have setR:∀ {M:Mem} (hx:Ext m2 M) (w:Int) (s':St),s'={ s with frames:=fs ++ [Frame.put { f with own:=own,pc:=f.pc+1 } x.dst w 0] } ->
   q08 Tryz.prog q27 [vp mb 0,vi x.dst,vi w] M fun _ m'=>Sam [m1.size,m.size] M m'/\SFin m0 ro m mb d p s' m':=fun hx w s' e=>by
  obtain ⟨SM,tM⟩:=S2.ext hx
  refine (qf0 SM (by omega) hd.1 (by simp only []; omega) (by simp only []; omega) w hpc).mono ?_
  rintro _ m' ⟨S',t'⟩
  exact ⟨t'.samB (B2.to tM),ro,out,hp,fr,by rw [e]; exact S'.lay,(t2.trans tM).trans t'⟩
 have goR:∀ {M:Mem} (hx:Ext m2 M) (v:Int) (s':St),s'={ s with frames:=fs ++ [{ f with own:=own,pc:=v }] } ->
   q08 Tryz.prog q0s [vp mb 0,vi v] M fun _ m'=>Sam [m1.size,m.size] M m'/\SFin m0 ro m mb d p s' m':=fun hx v s' e=>by
  obtain ⟨SM,tM⟩:=S2.ext hx
  refine (q3h SM (by omega) v).mono ?_
  rintro _ m' ⟨S',t'⟩
  exact ⟨t'.samB (B2.to tM),ro,out,hp,fr,by rw [e]; exact S'.lay,(t2.trans tM).trans t'⟩
 refine ⟨fun e=>?_,fun e0=>?_⟩
 ·simp at e
  exact setR (Ext.refl _) _ _ (by unfold perform; simp only []; rw [if_pos e])
 simp only [beq_eq_false_iff_ne] at e0
 refine ⟨fun e=>?_,fun e1=>?_⟩
 ·simp only [Bool.or_eq_true,beq_iff_eq] at e
  have h2:=h4.2.2.1 (by omega)
  have ha0:=arg0 (by omega)
  have ha1:0<=at' x.args 1/\at' x.args 1 < f.regs.length:=C.arg _ (q18 (by omega) (by omega))
  have hi:=hM.ints (by omega)
  refine ⟨by omega,by omega,_,ga S2.lay.base (by omega),ha0.1,by omega,_,gr S2 ha0.1 ha0.2,by omega,by omega,_,(ha.ext S2.lay.base).atI (i:=1) (by omega) (by omega),ha1.1,by omega,_,gr S2 ha1.1 ha1.2,?_⟩
  refine (qrm (intR _ (q18 (by omega) (by omega)) (hi _ (q18 (by omega) (by omega)))) (intR _ (q18 (by omega) (by omega)) (hi _ (q18 (by omega) (by omega)))) m2).mono ?_
  rintro _ m3 ⟨rfl,h23⟩
  refine ⟨h23.sam (fun b hb=>(B2 b hb).1),_,rfl,h23.keepG (kB.get 1),setR h23 _ _ ?_⟩
  unfold perform; simp only []; rw [if_neg e0,if_pos e]
 simp only [Bool.or_eq_false_iff,beq_eq_false_iff_ne] at e1
 have e1':¬ (x.op=1 \/ x.op=2 \/ x.op=3 \/ x.op=4):=by omega
 refine ⟨fun e=>?_,fun e5=>?_⟩
 ·simp only [beq_iff_eq] at e
  have h2:=h4.2.1 (by omega)
  have ha0:=arg0 (by omega)
  have hlo:(Sl.len out)=s.out.length:=by have:=S2.lay.out.len; simp at this; omega
  refine ⟨out,S2.lay.box.get 6,by omega,by omega,_,ga S2.lay.base (by omega),ha0.1,by omega,_,gr S2 ha0.1 ha0.2,?_⟩
  intro m3
  have h23:Ext m2 m3:=(Ext.refl m2).pushed _
  have hrow:rowIs m3 m2.size 0 [.i (at' f.regs (at' x.args 0))]:=(Blk.push m2 _ _).row
  obtain ⟨S3,t3⟩:=S2.ext h23
  have B3:=B2.to t3
  clear_value m3
  refine ⟨h23.keepG (S2.lay.box.get 6),Arr.append (zs:=[.i 0]) (x:=.mk m2.size 0 1 1) (new:=[.i (at' f.regs (at' x.args 0))]) S3.lay.out S3.lay.new rfl hrow (by simp only [Sl.len_mk]; omega) fun ro4 q m4 q1 q2=>?_⟩
  have q1':Arr ro4 m4 ty_int 1 2 q ((s.out ++ [at' f.regs (at' x.args 0)]).map Ce.i):=by simpa using q1
  obtain ⟨S4,t4⟩:=S3.setOut q2 q1'
  have B4:=B3.to t4
  refine ⟨t4.samB B3,S4.lay.wrBox (i:=6) (by simp),?_⟩
  intro m5
  obtain ⟨S5,t5⟩:=S4.setBox 6 [.s q]
  have B5:=B4.to t5
  refine ⟨t5.samB B4,by omega,by omega,_,ga S5.lay.base (by omega),ha0.1,by omega,_,gr S5 ha0.1 ha0.2,?_⟩
  refine (qf0 (s:={ s with out:=s.out ++ [at' f.regs (at' x.args 0)] }) S5 (by omega) hd.1 (by simp only []; omega) (by simp only []; omega) _ hpc).mono ?_
  rintro _ m6 ⟨S6,t6⟩
  refine ⟨t6.samB B5,ro4,q,hp,fr,?_,(((t2.trans t3).trans t4).trans t5).trans t6⟩
  unfold perform; simp only []; rw [if_neg e0,if_neg e1',if_pos e]; exact S6.lay
 simp only [beq_eq_false_iff_ne] at e5
 have kept':∀ w ∈ f.held,w ≠ 0->1000<=w/\ix w < s.heap.length:=fun w hw hne=>by
  obtain ⟨h1,dd,hdd,_⟩:=C.keptAt w hw hne; exact ⟨h1,q04 hdd⟩
 refine ⟨fun e=>?_,fun e6=>?_⟩
 ·simp only [beq_iff_eq] at e
  have h6:=h4.2.2.2.2.1 e
  refine (qcb S2 ha C.arg h4.1 x.num hlen3 (by simp only []; omega) ⟨h6.1,h6.2.1⟩ hpc (by omega) (by omega) kept').mono ?_
  rintro _ m3 ⟨ro3,out3,hp3,fr3,L3,t3⟩
  refine ⟨t3.samB B2,ro3,out3,hp3,fr3,?_,t2.trans t3⟩
  have:perform im s fs f x own=consSt s fs { f with own:=own } x x.num:=by
   unfold perform consSt; simp only []; rw [if_neg e0,if_neg e1',if_neg e5,if_pos e]; rfl
  rw [this]; exact L3
 simp only [beq_eq_false_iff_ne] at e6
 refine ⟨fun e=>?_,fun e10=>?_⟩
 ·simp only [beq_iff_eq] at e
  have h10:=h4.2.2.2.2.2.1 e
  have hin:x.into=0:=by rcases hI.into with h5 | h5; exact h5; omega
  have h12:(q17 im.decls).length<=12:=by
   have:=fc_12 C.ok.image.sigs.types im.decls.length
   rw [fc_all _ _ (Nat.le_refl _)] at this; exact this
  refine ⟨d,S2.lay.box.get 0,(q8r (him.ext S2.lay.base).decls C.ok.image.sigs.types).mono ?_⟩
  rintro _ m3 ⟨rfl,h23⟩
  obtain ⟨S3,t3⟩:=S2.ext h23
  have B3:=B2.to t3
  have e3:w64 (((q17 im.decls).length:Int)+x.num)=q0j im+x.num:=q07 (by omega) (by omega)
  refine ⟨t3.samB B2,_,rfl,h23.keepG (kB.get 2),h23.keepG (kB.get 0),h23.keepG (kB.get 1),h23.keepG (kB.get 2),h23.keepG (kB.get 3),h23.keepG (kB.get 4),h23.keepG (kB.get 5),h23.keepG (kF.get 0),h23.keepG (kF.get 1),h23.keepG (kF.get 2),h23.keepG (kF.get 3),h23.keepG (kF.get 4),h23.keepG (kF.get 5),?_⟩
  rw [e3]
  refine (qcb S3 ha C.arg h4.1 (q0j im+x.num) hlen3 (by simp only []; omega) (by rw [hin]; omega) hpc (by omega) (by omega) kept').mono ?_
  rintro _ m4 ⟨ro4,out4,hp4,fr4,L4,t4⟩
  refine ⟨t4.samB B3,ro4,out4,hp4,fr4,?_,(t2.trans t3).trans t4⟩
  have:perform im s fs f x own=consSt s fs { f with own:=own } x (q0j im+x.num):=by
   unfold perform consSt; simp only []; rw [if_neg e0,if_neg e1',if_neg e5,if_neg e6,if_pos e,if_neg (fun hh=>hh.1 hin)]; rfl
  rw [this]; exact L4
 simp only [beq_eq_false_iff_ne] at e10
 refine ⟨fun e=>?_,fun e9=>?_⟩
 ·simp only [Bool.or_eq_true,beq_iff_eq] at e
  have hOp:=hI.op
  unfold OpOk at hOp
  refine (qqv S2 him C.ok.image ha C.arg h4.1 (by omega) (fun e'=>?_) (fun e'=>⟨h4.2.2.1 (by omega),hM.apply e'⟩) hlen3 (fun g hg=>?_) hpc (by omega) (by omega) (by omega) (by omega) C.ok.heap).mono ?_
  ·rw [if_neg (by omega),if_neg (by omega),if_neg (by omega),if_neg (by omega),if_pos e'] at hOp; exact hOp
  ·have hF:=C.ok.frames g (by rw [C.fr]; exact List.mem_append_left _ hg)
   obtain ⟨pg,_,hge,hPg,_⟩:=hF.instr C.ok.image
   have h1:=hF.lr
   have h2:=hF.lo
   have h3:=hF.lh
   rw [hge] at h1 h2 h3
   have:=hPg.regs
   omega
  rintro _ m3 ⟨ro3,out3,hp3,fr3,L3,t3⟩
  refine ⟨t3.samB B2,ro3,out3,hp3,fr3,?_,t2.trans t3⟩
  have:perform im s fs f x own=enterSt im s fs { f with own:=own } x:=by
   unfold perform enterSt; simp only []
   rw [if_neg e0,if_neg e1',if_neg e5,if_neg e6,if_neg e10,if_neg (by omega),if_neg (by omega),if_neg (by omega),if_neg (by omega),if_neg (by omega),if_neg (by omega),if_neg (by omega),if_neg (by omega)]
   by_cases e9:x.op=9
   ·rw [if_pos e9,if_pos e9]; rfl
   ·rw [if_neg e9,if_neg e9]
    by_cases e24:x.op=24
    ·rw [if_pos e24,if_pos e24]; rfl
    ·rw [if_neg e24,if_neg e24,if_pos (by omega)]
  rw [this]; exact L3
 simp only [Bool.or_eq_false_iff,beq_eq_false_iff_ne] at e9
 refine ⟨fun e=>?_,fun e23=>?_⟩
 ·simp only [beq_iff_eq] at e
  have h2:=h4.2.1 (by omega)
  have ha0:=arg0 (by omega)
  refine ⟨by omega,by omega,_,ga S2.lay.base (by omega),ha0.1,by omega,_,gr S2 ha0.1 ha0.2,(qqk S2 (by omega) (at' f.regs (at' x.args 0)) (fun g hg=>?_)).mono ?_⟩
  ·have hne:fs ≠ []:=fun e=>by rw [e] at hg; simp at hg
   have hfs':fs=fs.dropLast ++ [g]:=by
    rw [List.getLast?_eq_some_getLast hne] at hg
    simp at hg
    rw [← hg]; exact (List.dropLast_concat_getLast hne).symm
   have hdl:fs.length=fs.dropLast.length+1:=by
    have:=congrArg List.length hfs'
    simpa using this
   obtain ⟨q1,q2,q3⟩:=C.ok.chain fs.dropLast.length g f (by rw [C.fr,hfs']; simp) (by rw [C.fr,← hdl]; simp)
   have hGF:=C.ok.frames g (by rw [C.fr,hfs']; simp)
   have:=hGF.lr
   have:=hGF.lo
   exact ⟨q1,by show f.dst < _; omega,by show f.dst < _; omega⟩
  rintro _ m3 ⟨ro3,out3,hp3,fr3,L3,t3⟩
  refine ⟨t3.samB B2,ro3,out3,hp3,fr3,?_,t2.trans t3⟩
  unfold perform
  simp only []
  rw [if_neg e0,if_neg e1',if_neg e5,if_neg e6,if_neg e10,if_neg (by omega),if_neg (by omega),if_neg (by omega),if_neg (by omega),if_neg (by omega),if_neg (by omega),if_neg (by omega),if_neg (by omega),if_neg (by omega),if_neg (by omega),if_neg (by omega)]
  exact L3
 simp only [beq_eq_false_iff_ne] at e23
 have hp5:∀ (k:St),(if x.op=0 then k else k)=k:=fun k=>by split <;> rfl
 have pre:perform im s fs f x own=(
   if x.op=14 then { s with heap:=bump s.heap (at' f.regs (at' x.args 0)),frames:=fs ++ [{ f with own:=setI own (at' x.args 0) (at' own (at' x.args 0)+1),pc:=f.pc+1 }] }
   else if x.op=15 then { s with heap:=trim (dropS s.heap [at' f.regs (at' x.args 0)]),frames:=fs ++ [{ f with own:=own,pc:=f.pc+1 }] }
   else if x.op=16 \/ x.op=17 then openSt s fs { f with own:=own } x
   else if x.op=18 then { s with frames:=fs ++ [Frame.put { f with own:=own,pc:=f.pc+1 } x.dst (at' f.regs (at' x.args 0)) (q1g (at' f.regs (at' x.args 0)))] }
   else if x.op=19 then { s with frames:=fs ++ [Frame.put { f with own:=own,pc:=f.pc+1 } x.dst (at' (q01 s.heap (at' f.regs (at' x.args 0))).fields x.num) 0] }
   else if x.op=20 then { s with frames:=fs ++ [{ f with own:=own,pc:=if at' f.regs (at' x.args 0)=0 then x.num else f.pc+1 }] }
   else if x.op=21 then { s with frames:=fs ++ [{ f with own:=own,pc:=at' x.jumps (idxOf (q1h im.decls x.num) (q01 s.heap (at' f.regs (at' x.args 0))).tag) }] }
   else { s with frames:=fs ++ [{ f with own:=own,pc:=x.num }] }):=by
  unfold perform
  simp only []
  rw [if_neg e0,if_neg e1',if_neg e5,if_neg e6,if_neg e10]
  by_cases a14:x.op=14
  ·rw [if_pos a14,if_pos a14]
  rw [if_neg a14,if_neg a14]
  by_cases a15:x.op=15
  ·rw [if_pos a15,if_pos a15]
  rw [if_neg a15,if_neg a15]
  by_cases a16:x.op=16 \/ x.op=17
  ·rw [if_pos a16,if_pos a16]; rfl
  rw [if_neg a16,if_neg a16]
  by_cases a18:x.op=18
  ·rw [if_pos a18,if_pos a18]
  rw [if_neg a18,if_neg a18]
  by_cases a19:x.op=19
  ·rw [if_pos a19,if_pos a19]
  rw [if_neg a19,if_neg a19]
  by_cases a20:x.op=20
  ·rw [if_pos a20,if_pos a20]
  rw [if_neg a20,if_neg a20]
  by_cases a21:x.op=21
  ·rw [if_pos a21,if_pos a21]
  rw [if_neg a21,if_neg a21]
  have:=C.opc
  rw [if_pos (by omega)]
 rw [pre]
 clear pre hp5
 refine ⟨fun e=>?_,fun e14=>?_⟩
 ·simp only [beq_iff_eq] at e
  rw [if_pos e]
  have h2:=h4.2.1 (by omega)
  have ha0:=arg0 (by omega)
  obtain ⟨hlv,hmx⟩:=hM.dup e
  obtain ⟨hcc,hpos⟩:=q0i hlv
  refine ⟨by omega,by omega,_,ga S2.lay.base (by omega),ha0.1,by omega,_,gr S2 ha0.1 ha0.2,?_⟩
  intro m3
  have h23:Ext m2 m3:=(Ext.refl m2).pushed _
  have ow:Own m2 m3 ty_int 1 (.mk m2.size 0 1 1) ([at' f.regs (at' x.args 0)].map Ce.i):=Own.new (Ext.refl m2) ty_int 1 _ 1 (by simp)
  obtain ⟨S3,t3⟩:=S2.ext h23
  have B3:=B2.to t3
  have hz:ro m2.size=0:=S2.lay.new _ (Nat.le_refl _)
  clear_value m3
  refine (qhb S3.lay (q03.ofOwn ow (by simp)) (fun _=>hz) (fun w hw=>?_) (fun c hc=>?_) (by simp) (by omega)).mono ?_
  ·simp at hw; subst hw; exact ⟨hlv.1,q04 hcc⟩
  ·have:=C.ok.heap.cell c hc; have h5:=this.lo; have h6:=this.hi; omega
  rintro _ m4 ⟨hh4,c4⟩
  obtain ⟨S4,t4⟩:=S3.setHeap (c4.mono fun k hk=>Or.inl hk) hh4
  have B4:=B3.to t4
  have hao:at' x.args 0 < own.length:=by omega
  have hob:0<=at' own (at' x.args 0)/\at' own (at' x.args 0)<=999999:=by
   have hm:=q18 (l:=own) ha0.1 hao
   refine ⟨hM.nn _ hm,?_⟩
   have hg:=at_get (l:=own) ha0.1 hao
   rw [hown] at hg
   obtain ⟨qq,hqq,hle⟩:=q3x _ _ _ _ hg
   have:=(C.ownb qq (q05 hqq)).2
   rw [← hown] at hle
   omega
  have e6':w64 (at' own (at' x.args 0)+1)=at' own (at' x.args 0)+1:=q07 (by omega) (by omega)
  refine ⟨t4.samB B3,by omega,by omega,_,ga S4.lay.base (by omega),by omega,by omega,_,ga S4.lay.base (by omega),ha0.1,by omega,at' own (at' x.args 0),(S4.ownSl (by simp only []; omega)).atI ha0.1 hao,ha0.1,by omega,S4.top.own.wrI ha0.1 hao,?_⟩
  rw [e6',e4]
  intro m5
  obtain ⟨S5,t5⟩:=S4.setOwn ha0.1 hao (at' own (at' x.args 0)+1)
  have B5:=B4.to t5
  refine ⟨t5.samB B4,(q3h (s:={ s with heap:=refer s.heap [at' f.regs (at' x.args 0)] }) S5 (by omega) (f.pc+1)).mono ?_⟩
  rintro _ m6 ⟨S6,t6⟩
  exact ⟨t6.samB B5,ro,out,hp,fr,S6.lay,(((t2.trans t3).trans t4).trans t5).trans t6⟩
 simp only [beq_eq_false_iff_ne] at e14
 rw [if_neg e14]
 have args1:x.args.length=1->x.args=[at' x.args 0]:=fun h1=>by
  cases hx:x.args with
  | nil=>rw [hx] at h1; simp at h1
  | cons y l=>cases l with
   | nil=>rfl
   | cons z l=>rw [hx] at h1; simp at h1
 refine ⟨fun e=>?_,fun e15=>?_⟩
 ·simp only [beq_iff_eq] at e
  rw [if_pos e]
  have h2:=h4.2.1 (by omega)
  have ha0:=arg0 (by omega)
  have ht:taken im x=[at' x.args 0]:=by unfold taken; rw [if_pos (by omega)]; exact args1 (by omega)
  have hHE1:=hHE.1
  rw [ht] at hHE1
  refine ⟨hp,S2.lay.box.get 7,by omega,by omega,_,ga S2.lay.base (by omega),ha0.1,by omega,_,gr S2 ha0.1 ha0.2,?_⟩
  intro m3
  have h23:Ext m2 m3:=(Ext.refl m2).pushed _
  have ow:Own m2 m3 ty_int 1 (.mk m2.size 0 1 1) ([at' f.regs (at' x.args 0)].map Ce.i):=Own.new (Ext.refl m2) ty_int 1 _ 1 (by simp)
  obtain ⟨S3,t3⟩:=S2.ext h23
  have B3:=B2.to t3
  clear_value m3
  refine ⟨h23.keepG (S2.lay.box.get 7),(ql3 S3.lay.heap S3.lay.new (q03.ofOwn ow (by simp)) (e:=fun b=>owns fs b+q0m f.regs own b) (hHE1.congr fun b=>rfl) hHE.2 (by omega)).mono ?_⟩
  rintro _ m4 ⟨ro4,hp4,rfl,hh4,c4⟩
  obtain ⟨S4,t4⟩:=S3.setHeap c4 hh4
  have B4:=B3.to t4
  refine ⟨t4.samB B3,hp4,rfl,S4.lay.wrBox (i:=7) (by simp),?_⟩
  intro m5
  obtain ⟨S5,t5⟩:=S4.setBox 7 [.s hp4]
  have B5:=B4.to t5
  rw [e4]
  refine ⟨t5.samB B4,(q3h (s:={ s with heap:=trim (dropS s.heap [at' f.regs (at' x.args 0)]) }) S5 (by omega) (f.pc+1)).mono ?_⟩
  rintro _ m6 ⟨S6,t6⟩
  exact ⟨t6.samB B5,ro4,out,hp4,fr,S6.lay,(((t2.trans t3).trans t4).trans t5).trans t6⟩
 simp only [beq_eq_false_iff_ne] at e15
 rw [if_neg e15]
 refine ⟨fun e=>?_,fun e16=>?_⟩
 ·simp only [Bool.or_eq_true,beq_iff_eq] at e
  rw [if_pos e]
  refine (qn5 S2 ha C.arg ⟨h4.2.2.2.1 e,h4.1⟩ e hlen3 hpc (by omega) (by omega) (fun q hq=>?_) (hM.open' e).1 C.ok.heap).mono ?_
  ·refine ⟨hM.nn q hq,?_⟩
   obtain ⟨k,hk⟩:=List.mem_iff_getElem?.1 hq
   simp only [] at hk
   rw [hown] at hk
   obtain ⟨qq,hqq,hle⟩:=q3x _ _ _ _ hk
   have:=(C.ownb qq (q05 hqq)).2
   omega
  rintro _ m3 ⟨ro3,out3,hp3,fr3,L3,t3⟩
  exact ⟨t3.samB B2,ro3,out3,hp3,fr3,L3,t2.trans t3⟩
 simp only [Bool.or_eq_false_iff,beq_eq_false_iff_ne] at e16
 rw [if_neg (by omega)]
 refine ⟨fun e=>?_,fun e18=>?_⟩
 ·simp only [beq_iff_eq] at e
  rw [if_pos e]
  have h2:=h4.2.1 (by omega)
  have ha0:=arg0 (by omega)
  refine ⟨by omega,by omega,_,ga S2.lay.base (by omega),ha0.1,by omega,_,gr S2 ha0.1 ha0.2,(qa8 S2 (by omega) hd.1 (by simp only []; omega) (by simp only []; omega) _).mono ?_⟩
  rintro _ m3 ⟨S3,t3⟩
  have B3:=B2.to t3
  rw [e4]
  refine ⟨t3.samB B2,(q3h S3 (by omega) (f.pc+1)).mono ?_⟩
  rintro _ m4 ⟨S4,t4⟩
  exact ⟨t4.samB B3,ro,out,hp,fr,S4.lay,(t2.trans t3).trans t4⟩
 simp only [beq_eq_false_iff_ne] at e18
 rw [if_neg e18]
 have hV2:=S2.rv him (by omega) (by omega) (hfrm S2)
 refine ⟨fun e=>?_,fun e19=>?_⟩
 ·simp only [beq_iff_eq] at e
  rw [if_pos e]
  have h2:=h4.2.1 (by omega)
  have ha0:=arg0 (by omega)
  obtain ⟨hlv,hnum⟩:=hM.load e
  have hOp:=hI.op
  unfold OpOk at hOp
  rw [if_neg (by omega),if_neg (by omega),if_neg (by omega),if_neg (by omega),if_neg (by omega),if_neg (by omega),if_neg (by omega),if_pos e] at hOp
  refine ⟨by omega,by omega,_,ga S2.lay.base (by omega),ha0.1,by omega,_,gr S2 ha0.1 ha0.2,(q1x hV2 hlv.1 (q0i hlv).1).mono ?_⟩
  rintro _ m3 ⟨fl,rfl,hfl,h23⟩
  have hfll:=hfl.len
  refine ⟨h23.sam (fun b hb=>(B2 b hb).1),_,_,_,rfl,h23.keepG (kB.get 2),h23.keepG (kB.get 1),hOp.2.1,by omega,_,hfl.atI hOp.2.1 hnum,setR h23 _ _ rfl⟩
 simp only [beq_eq_false_iff_ne] at e19
 rw [if_neg e19]
 refine ⟨fun e=>?_,fun e20=>?_⟩
 ·simp only [beq_iff_eq] at e
  rw [if_pos e]
  have h2:=h4.2.1 (by omega)
  have ha0:=arg0 (by omega)
  refine ⟨by omega,by omega,_,ga S2.lay.base (by omega),ha0.1,by omega,_,gr S2 ha0.1 ha0.2,fun h5=>?_,fun h5=>?_⟩
  ·simp at h5; exact goR (Ext.refl _) _ _ (by rw [if_pos h5])
  ·simp at h5; rw [e4]; exact goR (Ext.refl _) _ _ (by rw [if_neg h5])
 simp only [beq_eq_false_iff_ne] at e20
 rw [if_neg e20]
 refine ⟨fun e=>?_,fun e21=>?_⟩
 ·simp only [beq_iff_eq] at e
  rw [if_pos e]
  have h2:=h4.2.1 (by omega)
  have ha0:=arg0 (by omega)
  obtain ⟨hlv,htag⟩:=hM.switch e
  obtain ⟨ht1,ht2,hidx,hfc⟩:=qt1 htag
  have hOp:=hI.op
  unfold OpOk at hOp
  rw [if_neg (by omega),if_neg (by omega),if_neg (by omega),if_neg (by omega),if_neg (by omega),if_neg (by omega),if_neg (by omega),if_neg (by omega),if_neg (by omega),if_neg (by omega),if_pos e] at hOp
  have hix:idxOf (q1h im.decls x.num) (q01 s.heap (at' f.regs (at' x.args 0))).tag < (q1h im.decls x.num).length:=List.findIdx_lt_length_of_exists ⟨_,htag,by simp⟩
  have hjl:=hj.len
  have hj1:=hOp.2.2.1
  have hct:=(C.ok.heap.cell _ (q05 (q0i hlv).1)).alive (q0i hlv).2
  have htl:=C.ok.image.sigs.types.len
  refine ⟨by omega,by omega,_,ga S2.lay.base (by omega),ha0.1,by omega,_,gr S2 ha0.1 ha0.2,(q1x hV2 hlv.1 (q0i hlv).1).mono ?_⟩
  rintro _ m3 ⟨fl,rfl,hfl,h23⟩
  have e7:w64 (x.num - 1)=((x.num.toNat - 1:Nat):Int):=by rw [q07 (by omega) (by omega)]; omega
  rw [e7]
  have hx3:=S2.lay.base.trans h23
  refine ⟨h23.sam (fun b hb=>(B2 b hb).1),_,_,_,rfl,d,h23.gcell (S2.lay.box.get 0),(q5w (him.ext hx3).decls C.ok.image.sigs.types (by omega)).mono ?_⟩
  rintro _ m4 ⟨rfl,h34⟩
  have h24:=h23.trans h34
  have e8:w64 ((q01 s.heap (at' f.regs (at' x.args 0))).tag - ((fc im.decls (x.num.toNat - 1):Nat):Int))=((idxOf (q1h im.decls x.num) (q01 s.heap (at' f.regs (at' x.args 0))).tag:Nat):Int):=by
   rw [q07 (by omega) (by omega)]; omega
  refine ⟨h34.sam (fun b hb=>h23.lt (B2 b hb).1),_,rfl,h34.keepG ((kB.ext h23).get 5),?_⟩
  rw [e8]
  refine ⟨by omega,by omega,_,(hj.ext (hx3.trans h34)).atI (by omega) (by omega),goR h24 _ _ rfl⟩
 simp only [beq_eq_false_iff_ne] at e21
 rw [if_neg e21]
 refine ⟨fun e=>goR (Ext.refl _) _ _ rfl,fun e22=>?_⟩
 simp only [beq_eq_false_iff_ne] at e22
 have:=C.opc
 omega
end
end
section
theorem qtn (l l':List Int) (h:l'.length=l.length):setL (l.map Ce.i) 0 (l'.map Ce.i)=l'.map Ce.i:=by
 have:=qfm [] (l'.map Ce.i) (l.map Ce.i) (by simp; omega)
 simp only [List.nil_append,List.length_nil] at this
 rw [this,List.drop_of_length_le (by simp; omega),List.append_nil]
section
variable {m0:Mem} {ro:Nat->Nat} {m:Mem} {mb e:Nat} {bx:List Ce} {out hp fr:Sl} {lo:List Int} {lh:List Cell} {fs:List Frame} {f:Frame} {r o h:Sl} {css:List (List Ce)}
theorem ST.copyOwn (S:ST m0 ro m mb e bx out hp fr lo lh fs f r o h css) {own:List Int} (hl:own.length=f.own.length) (h0:0 < own.length):wrOk m o.blk o.off (own.map Ce.i).length/\ST m0 ro (scells m o.blk o.off (own.map Ce.i)) mb e bx out hp fr lo lh fs { f with own:=own } r o h css/\To ro m ro (scells m o.blk o.off (own.map Ce.i)):=by
 have T:=S.top
 have hc0:o.cap ≠ 0:=fun e=>by have:=(T.own.empty e).1; simp at this; rw [this] at hl; simp at hl; rw [hl] at h0; simp at h0
 have hb:=T.own.blk hc0
 have hc:Chg (fun k=>k=11+3*fs.length) ro m ro (scells m o.blk o.off (own.map Ce.i)):=Chg.scells S.lay.new hb.2 _ _
 have ha:=T.own.set (o:=0) (new:=own.map Ce.i) (by simp; omega)
 rw [qtn _ _ hl,Nat.add_zero] at ha
 have T':Top ro (scells m o.blk o.off (own.map Ce.i)) fr fs { f with own:=own } r o h css:=⟨T.arr.chg hc (by omega),T.len,T.size,T.outer hc fun k _ h3=>by omega,T.regs.chg hc (by omega),ha,T.held.chg hc (by omega)⟩
 obtain ⟨h4,h5⟩:=S.lay.setFrames (hc.mono fun k hk=>by omega) T'.frm
 refine ⟨?_,⟨h4,T'⟩,h5⟩
 have:=T.own.wr (o:=0) (n:=(own.map Ce.i).length) (by simp; omega)
 rw [Nat.add_zero] at this; exact this
end
section
variable {m0:Mem} {ro:Nat->Nat} {m:Mem} {mb:Nat} {d p out hp fr:Sl} {s:St}
set_option maxHeartbeats 1000000 in
theorem qrh {im:Image} (L:Lay m0 ro m mb q0l (SB d p s out hp fr) out hp fr s.out s.heap s.frames) (him:ImageR m0 d p im) (hok:StateOk im s) (hfit:∀ g ∈ s.frames,∀ w ∈ g.regs,w<=9223372036854775807) (hhl:s.heap.length<=900000000) (hout:s.out.length<=900000000) :
  q08 Tryz.prog q67 [vp mb 0] m fun _ m'=>SFin m0 ro m mb d p (step im s) m':=by
 apply qdt (mb,0)
 simp -zeta only [q0a,q09,rI,rS,rB,cI,cB,cS,dI,dB,dS,gk,rg]
 refine ⟨s.status,L.box.get 2,fun h1=>?_,fun h1=>?_⟩
 ·simp at h1
  rw [q9n h1]
  exact ⟨ro,out,hp,fr,L,Chg.refl _ L.new⟩
 have hrun:s.status=3:=by simpa using h1
 obtain ⟨fs,f,hf⟩:=hok.split hrun
 have hlf:s.frames.getLast?=some f:=by rw [hf]; simp
 have hdl:s.frames.dropLast=fs:=by rw [hf]; simp
 have C:Cur im s fs f (q14 im f):=⟨hok,hrun,hf,rfl,hfit⟩
 have hst:step im s=(open Classical in if isCall (q14 im f).op/\s.calls=s.most then { s with status:=1 } else if MayRun im s f (q14 im f) (q0c f.regs f.own (taken im (q14 im f))) then perform im s fs f (q14 im f) (q0c f.regs f.own (taken im (q14 im f))) else { s with status:=2 }):=by
  unfold step; rw [if_neg (by simpa using hrun),hlf,hdl]
 rw [hst]
 generalize q14 im f=x at *
 have L':Lay m0 ro m mb q0l (SB d p s out hp fr) out hp fr s.out s.heap (fs ++ [f]):=by rw [← hf]; exact L
 obtain ⟨r,o,h,css,T⟩:=L'.frames.top
 have S:ST m0 ro m mb q0l (SB d p s out hp fr) out hp fr s.out s.heap fs f r o h css:=⟨L',T⟩
 have hfl:=T.frLen
 have hdep:=hok.depth
 have hcalls:=hok.calls
 have hmost:=hok.most
 rw [hf] at hdep
 have hfs:fs.length<=1000:=by simp at hdep; omega
 have e1:w64 ((fr.len:Int) - 1)=(fs.length:Int):=by rw [q07 (by omega) (by omega)]; omega
 have e2:Int.toNat (fs.length:Int)=fs.length:=by omega
 have g8:gcell m mb 8=some (Sl.v fr):=S.lay.box.get 8
 obtain ⟨g0,g1,g2,g3,g4,g5⟩:=T.row
 refine ⟨fr,g8,fr,g8,?_⟩
 rw [e1,e2]
 refine ⟨by omega,by omega,_,g0,_,g1,_,g2,r,g3,o,g4,h,g5,?_⟩
 intro m1
 have hx1:Ext m m1:=(Ext.refl m).pushed _
 refine ⟨hx1.keepG g0,hx1.keepG g1,hx1.keepG g2,hx1.keepG g3,hx1.keepG g4,hx1.keepG g5,hx1.keepG g8,hx1.keepG g8,?_⟩
 intro m2
 have hx2:Ext m m2:=hx1.scells (Nat.le_refl _) _ _
 have s2:m2.size=m.size+1:=by simp [m2,m1,q02]
 have kF:Blk m2 m.size q1l [.i f.proc,.i f.pc,.i f.dst,.s r,.s o,.s h]:=Blk.scells (m:=m1) (o:=0) (r:=[.i f.proc,.i f.pc,.i f.dst,.s r,.s o,.s h]) (Blk.push m _ _)
 obtain ⟨S2,t2⟩:=S.ext hx2
 clear_value m2
 obtain ⟨q,hq,hqe,hP,hcode,hI⟩:=C.I
 obtain ⟨pa,pl,pc,hpa,hpl,hpc,k0,k1,k2,k3,k4⟩:=him.procs.at' hq
 obtain ⟨a,j,ha,hj,i0,i1,i2,i3,i4,i5⟩:=hpc.at' hcode
 have hprl:=him.procs.len
 have hpcl:=hpc.len
 have hF:=C.F
 have hproc:=hF.proc
 have hfpc:=hF.pc
 rw [hqe] at hfpc
 have hb2:=S2.lay.base
 refine ⟨p,S2.lay.box.get 1,hproc.1,by omega,pc,hb2.gcell k4,hfpc.1,by omega,_,hb2.gcell i0,_,hb2.gcell i1,_,hb2.gcell i2,_,hb2.gcell i3,a,hb2.gcell i4,j,hb2.gcell i5,?_⟩
 intro m3
 have h23:Ext m2 m3:=(Ext.refl m2).pushed _
 refine ⟨h23.keepG (hb2.gcell i0),h23.keepG (hb2.gcell i1),h23.keepG (hb2.gcell i2),h23.keepG (hb2.gcell i3),h23.keepG (hb2.gcell i4),h23.keepG (hb2.gcell i5),h23.keepG (kF.get 1),h23.keepG (hb2.gcell k4),h23.keepG (kF.get 0),h23.keepG (S2.lay.box.get 1),?_⟩
 intro m4
 have h24:Ext m2 m4:=h23.scells (Nat.le_refl _) _ _
 have s4:m4.size=m2.size+1:=by simp [m4,m3,q02]
 obtain ⟨S4,t4⟩:=S2.ext h24
 have kF4:=kF.ext h24
 have B4:Bx0 ro m4 [m2.size,m.size]:=fun b hb=>by
  simp at hb
  rcases hb with rfl | rfl
  ·exact ⟨by omega,S.lay.new _ (by omega)⟩
  ·exact ⟨by omega,S.lay.new _ (Nat.le_refl _)⟩
 clear_value m4
 have t04:=t2.trans t4
 refine (qp3 _ _).mono ?_
 rintro _ m5 ⟨b,rfl,hb,h45⟩
 obtain ⟨S5,t5⟩:=S4.ext h45
 have B5:=B4.to t5
 have kF5:=kF4.ext h45
 have t05:=t04.trans t5
 have hlens:=C.lens
 have h4:=C.args4
 have hol:(q0c f.regs f.own (taken im x)).length=f.own.length:=q3c _ _ _
 refine ⟨t5.samB B4,b,rfl,fun hbt=>⟨s.calls,S5.lay.box.get 4,s.most,S5.lay.box.get 5,fun h6=>?_,fun h6=>?_⟩,fun hbf=>?_⟩
 ·simp at h6
  refine ⟨S5.lay.wrBox (i:=2) (by simp),?_⟩
  intro m6
  obtain ⟨S6,t6⟩:=S5.setBox 2 [.i 1]
  refine ⟨t6.samB B5,ro,out,hp,fr,?_,t05.trans t6⟩
  rw [if_pos ⟨hb.1 hbt,h6⟩]
  have:=S6.lay
  rw [← hf] at this
  exact this
 all_goals
  have hcall:¬ (isCall x.op/\s.calls=s.most):=by
   first
   | exact fun hh=>by simp at h6; exact h6 hh.2
   | exact fun hh=>fb hb hbf hh.1
  rw [if_neg hcall]
  have hb5:=S5.lay.base
  refine ⟨d,S5.lay.box.get 0,p,S5.lay.box.get 1,(qoj (him.ext hb5) C.call (ha.ext hb5) (by omega) h4.2.2.2.1).mono ?_⟩
  rintro _ m6 ⟨ts,rfl,ot,h56⟩
  obtain ⟨S6,t6⟩:=S5.ext h56
  have B6:=B5.to t6
  have htl:=qit im x
  have it:q03 m6 ts (taken im x):=q03.ofOwn ot (by omega)
  refine ⟨t6.samB B5,ts,rfl,h56.keepG (kF5.get 0),h56.keepG (kF5.get 1),h56.keepG (kF5.get 2),h56.keepG (kF5.get 3),h56.keepG (kF5.get 4),h56.keepG (kF5.get 5),?_⟩
  refine (qmj (f:=f) (S6.regSl (by omega)) (S6.ownSl (by omega)) it C.takenIn hlens.1 (by omega) (by omega) (fun w hw=>by have:=C.ownb w hw; omega)).mono ?_
  rintro _ m7 ⟨os,rfl,oo,h67⟩
  obtain ⟨S7,t7⟩:=S6.ext h67
  have B7:=B6.to t7
  have io:q03 m7 os (q0c f.regs f.own (taken im x)):=q03.ofOwn oo (by omega)
  have hfr7:FrameSl m7 fr (fs ++ [f]):=S7.lay.frames.read (by simp; omega) (fun g hg=>by
   have hG:=hok.frames g (by rw [hf]; exact hg)
   obtain ⟨pg,_,hge,hPg,_⟩:=hG.instr hok.image
   have q1:=hG.lr
   have q2:=hG.lo
   have q3:=hG.lh
   rw [hge] at q1 q2 q3
   have:=hPg.regs
   omega)
  have hV7:=S7.rv him (by omega) (by omega) hfr7
  have hss:({ s with frames:=fs ++ [f] }:St)=s:=by rw [← hf]
  rw [hss] at hV7
  refine ⟨t7.samB B6,os,rfl,(qp2 hV7 C (S7.regSl (by omega)) (S7.heldSl (by omega)) (ha.ext S7.lay.base) io hol).mono ?_⟩
  rintro _ m8 ⟨b2,rfl,hb2',h78⟩
  obtain ⟨S8,t8⟩:=S7.ext h78
  have B8:=B7.to t8
  have t08:=((t05.trans t6).trans t7).trans t8
  refine ⟨t8.samB B7,b2,rfl,fun h9=>?_,fun h9=>?_⟩
  ·rw [if_neg (nb hb2' h9)]
   refine ⟨S8.lay.wrBox (i:=2) (by simp),?_⟩
   intro m9
   obtain ⟨S9,t9⟩:=S8.setBox 2 [.i 2]
   refine ⟨t9.samB B8,ro,out,hp,fr,?_,t08.trans t9⟩
   have:=S9.lay
   rw [← hf] at this
   exact this
  ·have hM:=yb hb2' h9
   rw [if_pos hM]
   have hosl:=io.len
   have hoL:o.len=f.own.length:=by have:=S8.top.own.len; simp at this; omega
   obtain ⟨w1,S9,t9⟩:=S8.copyOwn hol (by omega)
   refine ⟨(q0c f.regs f.own (taken im x)).map Ce.i,by rw [hosl,hoL,hol]; simp [Nat.min_def]; omega,(io.ext h78).rows,w1,?_⟩
   intro m9
   have B9:=B8.to t9
   refine ⟨t9.samB B8,(qoq C rfl hM S9 him ha hj hhl hout).mono ?_⟩
   rintro _ m10 hfin
   obtain ⟨ro',out',hp',fr',L10,t10⟩:=hfin
   exact ⟨t10.samB B9,ro',out',hp',fr',L10,(t08.trans t9).trans t10⟩
end
end
end Go.Proofs.YtpggcodlaajceaaGreat
