/- Part of a proof, joined by a program: La8 Va1 Va2 Va3 Va4 Va5. -/
import Derived.Test.YtpggcodlaajceaaGreatU07
import Derived.Test.YtpggcodlaajceaaGreatU08
import Derived.Test.YtpggcodlaajceaaGreatU11
set_option linter.unusedVariables false
set_option linter.unusedSimpArgs false
namespace Go.Proofs.YtpggcodlaajceaaGreat
open Go.Vc
section
/-! Cell -/
def q3s:Row:=.int (.int (.sl (.int .nil) (.nil)))
def qcp (x:Cell):Prop:=(x.fields).length<=1048576
def qdr (l:List (Cell)):Prop:=l.length<=1048576/\∀ x ∈ l,qcp x
def q1q (m0 m:Mem) (cs:List Ce) (x:Cell):Prop:=∃ q2:Sl,cs=[.i x.count,.i x.tag,.s q2]/\CpI m0 m q2 (x.fields)
abbrev q5q (m0 m:Mem) (s:Sl) (l:List (Cell)):Prop:=CpS q35 3 (q1q m0 m) m0 m s l
theorem q1q.mono {m0 m m1 m':Mem} (hk:Kp m0.size m m') (hb:m1.size<=m0.size) {cs:List Ce} {x:Cell}:q1q m0 m cs x->q1q m1 m' cs x:=by
 rintro ⟨q2,rfl,h2⟩
 exact ⟨q2,rfl,(h2.keep hk).base hb⟩
theorem q1q.read {m0 m:Mem} {cs:List Ce} {x:Cell} (h:q1q m0 m cs x) (hs:qcp x):CellR m cs x:=by
 obtain ⟨q2,rfl,h2⟩:=h
 exact ⟨q2,rfl,q03.ofOwn h2 (by have:(x.fields).length<=1048576:=hs; omega)⟩
theorem q5q.read {m0 m:Mem} {s:Sl} {l:List (Cell)} (h:q5q m0 m s l) (hs:qdr l):q0h m s l:=CpS.read (sz:=2) h (fun cs x hx hr=>q1q.read hr (hs.2 x hx)) hs.1
theorem q1q.walk {m0 m:Mem} {cs:List Ce} {x:Cell} (h:q1q m0 m cs x) (hs:qcp x) (b o:Nat) (hr:rowIs m b o cs) (hf:∀ i,i < cs.length->Vc.froz m b (o+i)=false) (hb:m0.size<=b):∃ pos,Walk m (.row q3s) b o pos/\(∀ p ∈ pos,m0.size<=p.1)/\pos.length<=1048578:=by
 obtain ⟨q2,rfl,h2⟩:=h
 obtain ⟨p2,w2,b2,l2⟩:=CpI.walk h2 hs
 have v2:q2.len<=9223372036854775807:=by have:=CpI.slen h2; have:(x.fields).length<=1048576:=hs; omega
 refine ⟨(b,o+0) :: ((b,o+1) :: (p2 ++ ([]))),.int (hr 0 (.i x.count) rfl) (hf 0 (by simp)) (.int (hr 1 (.i x.tag) rfl) (hf 1 (by simp)) (.sl (s:=q2) (hr 2 (.s q2) rfl) v2 w2 (.nil _ _))),fun p hp=>?_,?_⟩
 ·simp only [List.mem_append,List.mem_cons,List.not_mem_nil,or_false] at hp
  rcases hp with rfl | rfl | hp
  ·exact hb
  ·exact hb
  ·exact b2 p hp
 ·simp only [List.length_append,List.length_cons,List.length_nil]; omega
theorem q5q.walk {m0 m:Mem} {s:Sl} {l:List (Cell)} (h:q5q m0 m s l) (hs:qdr l):∃ pos,Walk m (.rows q3s s.len) s.blk s.off pos/\(∀ p ∈ pos,m0.size<=p.1)/\pos.length<=1099513724928:=by
 obtain ⟨pos,h1,h2,h3⟩:=CpS.walk (sz:=2) (r:=q3s) h rfl (fun cs x hx hr=>q1q.walk hr (hs.2 x hx))
 exact ⟨pos,h1,h2,Nat.le_trans h3 (Nat.le_trans (Nat.mul_le_mul_right 1048578 hs.1) (by decide))⟩
theorem qpe {m:Mem} {x:Cell} {q2:Sl} (h2:q03 m q2 (x.fields)) {left:Int} (z0:Lft left):q08 Tryz.prog qbj [.agg #[vi x.count,vi x.tag,Sl.v q2],vi left] m (SzR left (qcp x) m):=by
 apply qkw
 simp -zeta only [q0a,q09,rI,rS,rB,cI,cB,cS,dI,dB,dS,gk,rg]
 intro m1
 have e0:Ext m m1:=(Ext.refl m).pushed _
 have s1:m1.size=m.size+1:=by simp [m1]
 clear_value m1
 obtain ⟨z1,z2⟩:=z0
 refine (q2i (h2.ext e0) (left:=left) ⟨by omega,by omega⟩).mono ?_
 rintro _ m2 ⟨n1,rfl,le1,sm1,x1⟩
 have e1:Ext m m2:=e0.trans x1
 refine ⟨x1.sam (by simp; omega),n1,rfl,fun h=>⟨-1,rfl,by omega,fun h=>by omega,e1⟩,fun h=>?_⟩
 simp only [decide_eq_false_iff_not] at h
 have y1:m.size+1<=m2.size:=by have:=x1.size; omega
 exact ⟨_,rfl,by omega,fun _=>sm1 (by omega),e1⟩
theorem qny {m:Mem} {s:Sl} {l:List (Cell)} (h:q0h m s l) {left:Int} (z0:Lft left):q08 Tryz.prog qae [Sl.v s,vi left] m (SzR left (qdr l) m):=by
 apply qjq
 have h1:=h.len
 have h2:=h.lim
 obtain ⟨h3,h4⟩:=z0
 have e:w64 (left - (s.len:Int))=left - s.len:=q07 (by omega) (by omega)
 rw [e]
 refine ⟨fun _=>⟨-1,rfl,by omega,fun h=>by omega,Ext.refl _⟩,fun h5=>?_⟩
 simp only [decide_eq_false_iff_not] at h5
 refine forSI (σ:=Int) (n:=l.length) (by omega) (fun k n m'=>0<=n/\n<=left/\Ext m m'/\∀ x ∈ l.take k,qcp x) ⟨by omega,by omega,Ext.refl _,by simp⟩ ?_
 rintro k n m1 I μ hk ⟨hn,hn2,hx,hs⟩ next
 refine ⟨fun h6=>?_,fun h6=>?_⟩
 ·simp only [decide_eq_true_eq] at h6
  obtain ⟨y,hy⟩:=q00 (l:=l) (k:=k) (by omega)
  obtain ⟨q2,h2,g0,g1,g2⟩:=(q0h.ext hx h).at' hy
  refine ⟨by omega,by omega,_,g0,_,g1,_,g2,(qpe h2 ⟨hn,by omega⟩).mono ?_⟩
  rintro _ m2 ⟨n2,rfl,le2,sm2,hx2⟩
  refine ⟨n2,rfl,fun h=>⟨-1,rfl,by omega,fun h=>by omega,hx.trans hx2⟩,fun h7=>?_⟩
  simp only [decide_eq_false_iff_not] at h7
  refine next (by omega) _ _ ⟨by omega,by omega,hx.trans hx2,fun x hxm=>?_⟩
  rw [q06 hy] at hxm
  rcases List.mem_append.1 hxm with h8 | h8
  ·exact hs x h8
  ·simp at h8; subst h8; exact sm2 (by omega)
 ·simp only [decide_eq_false_iff_not] at h6
  rw [q0b (by omega)] at hs
  exact ⟨n,rfl,hn2,fun _=>⟨by omega,hs⟩,hx⟩
theorem qpg {m:Mem} {x:Cell} {q2:Sl} (h2:q03 m q2 (x.fields)) (hs:qcp x):q08 Tryz.prog qbu [.agg #[vi x.count,vi x.tag,Sl.v q2]] m fun v m'=>∃ r2:Sl,v=.agg #[vi x.count,vi x.tag,Sl.v r2]/\q1q m m' [.i x.count,.i x.tag,.s r2] x/\Ext m m':=by
 apply qlk
 simp -zeta only [q0a,q09,rI,rS,rB,cI,cB,cS,dI,dB,dS,gk,rg]
 intro m1 m2 m3
 have s1:m1.size=m.size+1:=by simp [m1]
 have s2:m2.size=m.size+2:=by simp [m2,s1]
 have s3:m3.size=m.size+3:=by simp [m3,s2]
 have x3:Ext m m3:=(((Ext.refl m).pushed _).pushed _).pushed _
 have y3:m3.size<=m3.size:=Nat.le_refl _
 clear_value m3
 intro m4
 have x4:Ext m m4:=x3.scells (by omega) _ _
 have y4:m3.size<=m4.size:=Nat.le_trans y3 (Nat.le_of_eq (q02 _ _ _ _).symm)
 have kp4:Kp m3.size m3 m4:=Kp.box (by omega) _ _
 clear_value m4
 intro m5
 have x5:Ext m m5:=x4.scells (by omega) _ _
 have y5:m3.size<=m5.size:=Nat.le_trans y4 (Nat.le_of_eq (q02 _ _ _ _).symm)
 have kp5:Kp m3.size m4 m5:=Kp.box (by omega) _ _
 clear_value m5
 refine (q2g (h2.ext x5) hs).mono ?_
 rintro _ m6 ⟨r2,rfl,c2,u6⟩
 have x6:Ext m m6:=x5.trans u6
 have y6:m3.size<=m6.size:=by have:=u6.size; omega
 have kp6:Kp m3.size m5 m6:=Kp.ext u6
 replace c2:=Own.base (m0:=m3) c2 y5
 refine ⟨u6.sam (by simp; omega),r2,rfl,?_⟩
 intro m7
 have x7:Ext m m7:=x6.scells (by omega) _ _
 have y7:m3.size<=m7.size:=Nat.le_trans y6 (Nat.le_of_eq (q02 _ _ _ _).symm)
 have kp7:Kp m3.size m6 m7:=Kp.box (by omega) _ _
 clear_value m7
 replace c2:=c2.keep (kp7)
 intro m8
 have x8:Ext m m8:=x7.scells (by omega) _ _
 have kp8:Kp m3.size m7 m8:=Kp.box (by omega) _ _
 clear_value m8
 replace c2:=c2.keep (kp8)
 have hR:q1q m3 m8 [.i x.count,.i x.tag,.s r2] x:=⟨r2,rfl,c2⟩
 exact ⟨r2,rfl,q1q.mono (Kp.ext (Ext.refl _)) (by omega) hR,x8⟩
theorem qnz {m:Mem} {s:Sl} {l:List (Cell)} (h:q0h m s l) (hs:qdr l):q08 Tryz.prog qaw [Sl.v s] m fun v m'=>∃ s',v=Sl.v s'/\q5q m m' s' l/\Ext m m':=by
 apply qid
 have hsl:=h.len
 have hl:=hs.1
 have e0:Int.toNat (s.len:Int)=l.length:=by omega
 rw [e0]
 refine ⟨by omega,Int.le_refl _,by omega,by omega,?_⟩
 intro m1
 have x1:Ext m m1:=(Ext.refl m).pushed _
 have s1:m1.size=m.size+1:=by simp [m1]
 have k1:Blk m1 m.size q35 (zrow [.i (0:Int),.i (0:Int),.s Sl.nil] l.length):=Blk.push m _ _
 clear_value m1
 simp -zeta only [Sl.blk_mk,Sl.off_mk,Sl.len_mk,Nat.zero_add]
 refine forI (n:=l.length) (by omega) (fun k m'=>Ext m m'/\m1.size<=m'.size/\∃ css,Blk m' m.size q35 (css.flatten ++ zrow [.i (0:Int),.i (0:Int),.s Sl.nil] (l.length - css.length))/\css.length=k/\RowsOf 3 (q1q m1 m') css (l.take k)) ⟨x1,Nat.le_refl _,[],by simpa using k1,rfl,by simpa using RowsOf.nil _ _⟩ ?_
 rintro k m2 I μ hk ⟨hx,hm2,css,kk,hck,hrow⟩ next
 refine ⟨fun h6=>?_,fun h6=>?_⟩
 ·simp only [decide_eq_true_eq] at h6
  obtain ⟨y,hy⟩:=q00 (l:=l) (k:=k) (by omega)
  obtain ⟨q2,h2,g0,g1,g2⟩:=(q0h.ext hx h).at' hy
  refine ⟨by omega,by omega,_,g0,_,g1,_,g2,(qpg h2 (hs.2 y (q05 hy))).mono ?_⟩
  rintro _ m3 ⟨r2,rfl,hc,x3⟩
  have ek:Int.toNat (k:Int)=k:=by omega
  have hm3:=x3.size
  refine ⟨_,_,_,rfl,by omega,by omega,?_⟩
  rw [ek]
  have hfl:css.flatten.length=k*3:=by rw [q0g hrow.size,hck]
  refine ⟨(kk.ext x3).wrOk (by rw [List.length_append,hfl,qad,hck]; simp only [List.length_cons,List.length_nil]; omega),next (by omega) _ ⟨(hx.trans x3).scells (Nat.le_refl _) _ _,by rw [q02]; omega,css ++ [[.i y.count,.i y.tag,.s r2]],?_,by simp [hck],?_⟩⟩
  ·have:=Blk.scells (m:=m3) (o:=k*3) (r:=[.i y.count,.i y.tag,.s r2]) (kk.ext x3)
   have e1:=fillRow (css:=css) (zs:=[.i (0:Int),.i (0:Int),.s Sl.nil]) (cs:=[.i y.count,.i y.tag,.s r2]) (n:=l.length) hrow.size rfl (by omega)
   simp only [List.length_cons,List.length_nil,Nat.zero_add,hck] at e1
   rw [hck] at this
   rw [e1] at this
   simpa [hck] using this
  ·rw [q06 hy]
   have kp:Kp m1.size m2 (scells m3 m.size (k*3) [.i y.count,.i y.tag,.s r2]):=fun b hb1 hb2=>by rw [q0n _ _ _ _ (by omega),x3.same b hb2]
   refine RowsOf.snoc ⟨hrow.len,hrow.size,fun j cs x hj hx=>q1q.mono kp (Nat.le_refl _) (hrow.each j cs x hj hx)⟩ rfl (q1q.mono (m0:=m2) (m1:=m1) (m:=m3) (Kp.box (by omega) _ _) (by omega) hc)
 ·simp only [decide_eq_false_iff_not] at h6
  have:k=l.length:=by omega
  subst this
  rw [q0b (Nat.le_refl _)] at hrow
  have e2:l.length - css.length=0:=by omega
  rw [e2] at kk
  simp only [zrow,List.replicate_zero,List.flatten_nil,List.append_nil] at kk
  exact ⟨_,rfl,⟨css,⟨by simp only [Sl.len_mk]; rw [q0g hrow.size,hck],Or.inr ⟨m.size,l.length,[],rfl,Nat.le_refl _,by rw [List.append_nil]; exact kk,by rw [List.append_nil,q0g hrow.size,hck],Nat.le_refl _⟩⟩,hrow.len,hrow.size,fun j cs x hj hx=>q1q.mono (Kp.ext (Ext.refl _)) (by omega) (hrow.each j cs x hj hx)⟩,hx⟩
theorem qp4 {m:Mem} {x y:Cell} {q2 r2:Sl} (h2:q03 m q2 (x.fields)) (k2:q03 m r2 (y.fields)):q0o Tryz.prog qbx [.agg #[vi x.count,vi x.tag,Sl.v q2],.agg #[vi y.count,vi y.tag,Sl.v r2]] m (x=y):=by
 apply ql5
 simp -zeta only [q0a,q09,rI,rS,rB,cI,cB,cS,dI,dB,dS,gk,rg]
 intro m1 m2
 have x2:Ext m m2:=((Ext.refl m).pushed _).pushed _
 have s1:m1.size=m.size+1:=by simp [m1]
 have s2:m2.size=m.size+2:=by simp [m2,s1]
 have y2:m.size+2<=m2.size:=by omega
 clear_value m2
 refine ⟨fun h=>retF (fun e=>by subst e; simp at h) x2,fun i0=>?_⟩
 simp only [bne_eq_false_iff_eq] at i0
 refine ⟨fun h=>retF (fun e=>by subst e; simp at h) x2,fun i1=>?_⟩
 simp only [bne_eq_false_iff_eq] at i1
 refine (q2h (h2.ext x2) (k2.ext x2)).mono ?_
 rintro _ m3 ⟨b2,rfl,hb2,u3⟩
 have x3:Ext m m3:=x2.trans u3
 have y3:m.size+2<=m3.size:=by have:=u3.size; omega
 refine ⟨u3.sam (by simp; omega),b2,rfl,fun h=>retF (fun e=>by subst e; exact nb hb2 h rfl) x3,fun h=>?_⟩
 have i2:=yb hb2 h
 clear h
 refine retT ?_ x3
 cases x; cases y; simp only [] at i0 i1 i2
 simp only [i0,i1,i2]
theorem qot {m:Mem} {s t:Sl} {l r:List (Cell)} (hs:q0h m s l) (ht:q0h m t r):q0o Tryz.prog qa6 [Sl.v s,Sl.v t] m (l=r):=by
 apply qjv
 have hsl:=hs.len
 have htl:=ht.len
 refine ⟨fun h=>retF (fun e=>?_) (Ext.refl _),fun h=>?_⟩
 ·subst e; simp at h; omega
 ·have hlen:l.length=r.length:=by simp at h; omega
  refine forI (n:=l.length) (hsl ▸ hs.lim) (fun k m'=>Ext m m'/\l.take k=r.take k) ⟨Ext.refl _,by simp⟩ ?_
  rintro k m1 I μ hk ⟨hx,he⟩ next
  refine ⟨fun h1=>?_,fun h1=>?_⟩
  ·simp only [decide_eq_true_eq] at h1
   obtain ⟨y,hy⟩:=q00 (l:=l) (k:=k) (by omega)
   obtain ⟨z,hz⟩:=q00 (l:=r) (k:=k) (by omega)
   obtain ⟨q2,h2,g0,g1,g2⟩:=(q0h.ext hx hs).at' hy
   obtain ⟨r2,k2,f0,f1,f2⟩:=(q0h.ext hx ht).at' hz
   refine ⟨by omega,by omega,_,g0,_,g1,_,g2,by omega,by omega,_,f0,_,f1,_,f2,(qp4 h2 k2).mono ?_⟩
   rintro _ m2 ⟨b,rfl,hb,x2⟩
   refine ⟨b,rfl,fun h2=>retF (fun e=>nb hb h2 ?_) (hx.trans x2),fun h2=>next (by omega) _ ⟨hx.trans x2,?_⟩⟩
   ·subst e; rw [hy] at hz; simpa using hz
   ·rw [q06 hy,q06 hz,he,yb hb h2]
  ·simp only [decide_eq_false_iff_not] at h1
   rw [q0b (by omega),q0b (by omega)] at he
   exact retT he hx
theorem qlt {m:Mem} {s:Sl} {pos:List (Nat × Nat)} (h:Walk m (.rows q3s s.len) s.blk s.off pos) (hlim:s.len<=9223372036854775807) {k:Int} (hk:0<=k/\k+pos.length<=4611686018427387904):q08 Tryz.prog q83 [Sl.v s,vi k] m (MarkR k pos m):=by
 apply qgi
 obtain ⟨ps,hpl,rfl,hp⟩:=Walk.split h
 refine forSI (σ:=Int) (n:=s.len) hlim (fun j c m'=>c=k+(ps.take j).flatten.length/\MkR m k (ps.take j).flatten m') ⟨by simp,MkR.nil (Ext.refl _) _⟩ ?_
 rintro j c m1 I μ hj ⟨rfl,G⟩ next
 refine ⟨fun h1=>?_,fun h1=>?_⟩
 ·simp only [decide_eq_true_eq] at h1
  obtain ⟨pj,hpj⟩:=q00 (l:=ps) (k:=j) (by omega)
  have hlen:(ps.take j).flatten.length+pj.length<=ps.flatten.length:=by
   have e1:(ps.take (j+1)).flatten.length=(ps.take j).flatten.length+pj.length:=by rw [q06 hpj]; simp
   have e2:ps.flatten.length=(ps.take (j+1)).flatten.length+(ps.drop (j+1)).flatten.length:=by rw [← List.length_append,← List.flatten_append,List.take_append_drop]
   omega
  have hq:∀ p ∈ (ps.take j).flatten,∃ n,gcell m p.1 p.2=some (vi n):=fun p hp'=>h.ints p (by
   rw [← List.take_append_drop j ps,List.flatten_append]; exact List.mem_append_left _ hp')
  have W0:Walk m1 (.row q3s) s.blk (s.off+j*3) pj:=(hp j pj hpj).mark G hq
  have ej:Int.toNat (j:Int)=j:=by omega
  have hnext:(ps.take (j+1)).flatten=(ps.take j).flatten ++ pj:=by rw [q06 hpj]; simp
  generalize hacc:(ps.take j).flatten=acc at *
  refine ⟨by omega,by omega,?_⟩
  rw [ej]
  simp only [q3s] at W0
  obtain ⟨v0,p0,g0,f0,rfl,W1⟩:=Walk.inv_int W0
  have e0:w64 (k+((acc).length:Int)+1)=k+((acc ++ [(s.blk,s.off+j*3)]).length:Int):=by simp only [List.length_append,List.length_cons,List.length_nil] at hlen ⊢; rw [q07 (by omega) (by omega)]; omega
  refine ⟨fun i hi=>?_,?_⟩
  ·have:i=0:=by omega
   subst this; exact ⟨by rw [Nat.add_zero]; rw [show gcell m1 s.blk (s.off+j*3)=_ from g0]; rfl,f0⟩
  rw [e0]
  intro m2
  have O0:MkR m1 (k+((acc).length:Int)) [(s.blk,s.off+j*3)] m2:=MkR.one (by rw [show gcell m1 s.blk (s.off+j*3)=_ from g0]; rfl) _
  replace W1:=W1.mark O0 (by simpa using ⟨v0,g0⟩)
  replace G:=G.trans O0
  clear_value m2
  refine ⟨by omega,by omega,?_⟩
  obtain ⟨v1,p1,g1,f1,rfl,W2⟩:=Walk.inv_int W1
  have e1:w64 (k+((acc ++ [(s.blk,s.off+j*3)]).length:Int)+1)=k+((acc ++ [(s.blk,s.off+j*3)] ++ [(s.blk,s.off+j*3+1)]).length:Int):=by simp only [List.length_append,List.length_cons,List.length_nil] at hlen ⊢; rw [q07 (by omega) (by omega)]; omega
  refine ⟨fun i hi=>?_,?_⟩
  ·have:i=0:=by omega
   subst this; exact ⟨by rw [Nat.add_zero]; rw [show gcell m2 s.blk (s.off+j*3+1)=_ from g1]; rfl,f1⟩
  rw [e1]
  intro m3
  have O1:MkR m2 (k+((acc ++ [(s.blk,s.off+j*3)]).length:Int)) [(s.blk,s.off+j*3+1)] m3:=MkR.one (by rw [show gcell m2 s.blk (s.off+j*3+1)=_ from g1]; rfl) _
  replace W2:=W2.mark O1 (by simpa using ⟨v1,g1⟩)
  replace G:=G.trans O1
  clear_value m3
  refine ⟨by omega,by omega,?_⟩
  obtain ⟨t2,p2,d2,g2,L2,V2,rfl,W3⟩:=Walk.inv_sl W2
  refine ⟨t2,g2,(q20 V2 (k:=k+((acc ++ [(s.blk,s.off+j*3)] ++ [(s.blk,s.off+j*3+1)]).length:Int)) (by simp only [List.length_append,List.length_cons,List.length_nil] at hlen ⊢; omega)).mono ?_⟩
  rintro _ m4 ⟨rfl,O2⟩
  have e2:k+((acc ++ [(s.blk,s.off+j*3)] ++ [(s.blk,s.off+j*3+1)]).length:Int)+(p2.length:Int)=k+((acc ++ [(s.blk,s.off+j*3)] ++ [(s.blk,s.off+j*3+1)] ++ p2).length:Int):=by simp only [List.length_append]; omega
  rw [e2]
  replace W3:=W3.mark O2 V2.ints
  replace G:=G.trans O2
  refine ⟨_,rfl,?_⟩
  have hz:=Walk.inv_nil W3
  subst hz
  refine next (by omega) _ _ ⟨?_,?_⟩
  ·rw [hnext]; simp
  ·rw [hnext]; simpa using G
 ·simp only [decide_eq_false_iff_not] at h1
  have:j=s.len:=by omega
  subst this
  rw [q0b (by omega)] at G
  exact ⟨by rw [q0b (by omega)],G⟩
/-! Frame -/
def q39:Row:=.int (.int (.int (.sl (.int .nil) (.sl (.int .nil) (.sl (.int .nil) (.nil))))))
def qaj (x:Frame):Prop:=(x.regs).length<=1048576/\(x.own).length<=1048576/\(x.held).length<=1048576
def qbi (l:List (Frame)):Prop:=l.length<=1048576/\∀ x ∈ l,qaj x
def q1o (m0 m:Mem) (cs:List Ce) (x:Frame):Prop:=∃ q3 q4 q5:Sl,cs=[.i x.proc,.i x.pc,.i x.dst,.s q3,.s q4,.s q5]/\CpI m0 m q3 (x.regs)/\CpI m0 m q4 (x.own)/\CpI m0 m q5 (x.held)
abbrev q4z (m0 m:Mem) (s:Sl) (l:List (Frame)):Prop:=CpS q1l 6 (q1o m0 m) m0 m s l
theorem q1o.mono {m0 m m1 m':Mem} (hk:Kp m0.size m m') (hb:m1.size<=m0.size) {cs:List Ce} {x:Frame}:q1o m0 m cs x->q1o m1 m' cs x:=by
 rintro ⟨q3,q4,q5,rfl,h3,h4,h5⟩
 exact ⟨q3,q4,q5,rfl,(h3.keep hk).base hb,(h4.keep hk).base hb,(h5.keep hk).base hb⟩
theorem q1o.read {m0 m:Mem} {cs:List Ce} {x:Frame} (h:q1o m0 m cs x) (hs:qaj x):FrameR m cs x:=by
 obtain ⟨q3,q4,q5,rfl,h3,h4,h5⟩:=h
 exact ⟨q3,q4,q5,rfl,q03.ofOwn h3 (by have:(x.regs).length<=1048576:=hs.1; omega),q03.ofOwn h4 (by have:(x.own).length<=1048576:=hs.2.1; omega),q03.ofOwn h5 (by have:(x.held).length<=1048576:=hs.2.2; omega)⟩
theorem q4z.read {m0 m:Mem} {s:Sl} {l:List (Frame)} (h:q4z m0 m s l) (hs:qbi l):FrameSl m s l:=CpS.read (sz:=5) h (fun cs x hx hr=>q1o.read hr (hs.2 x hx)) hs.1
theorem q1o.walk {m0 m:Mem} {cs:List Ce} {x:Frame} (h:q1o m0 m cs x) (hs:qaj x) (b o:Nat) (hr:rowIs m b o cs) (hf:∀ i,i < cs.length->Vc.froz m b (o+i)=false) (hb:m0.size<=b):∃ pos,Walk m (.row q39) b o pos/\(∀ p ∈ pos,m0.size<=p.1)/\pos.length<=3145731:=by
 obtain ⟨q3,q4,q5,rfl,h3,h4,h5⟩:=h
 obtain ⟨p3,w3,b3,l3⟩:=CpI.walk h3 hs.1
 have v3:q3.len<=9223372036854775807:=by have:=CpI.slen h3; have:(x.regs).length<=1048576:=hs.1; omega
 obtain ⟨p4,w4,b4,l4⟩:=CpI.walk h4 hs.2.1
 have v4:q4.len<=9223372036854775807:=by have:=CpI.slen h4; have:(x.own).length<=1048576:=hs.2.1; omega
 obtain ⟨p5,w5,b5,l5⟩:=CpI.walk h5 hs.2.2
 have v5:q5.len<=9223372036854775807:=by have:=CpI.slen h5; have:(x.held).length<=1048576:=hs.2.2; omega
 refine ⟨(b,o+0) :: ((b,o+1) :: ((b,o+2) :: (p3 ++ (p4 ++ (p5 ++ ([])))))),.int (hr 0 (.i x.proc) rfl) (hf 0 (by simp)) (.int (hr 1 (.i x.pc) rfl) (hf 1 (by simp)) (.int (hr 2 (.i x.dst) rfl) (hf 2 (by simp)) (.sl (s:=q3) (hr 3 (.s q3) rfl) v3 w3 (.sl (s:=q4) (hr 4 (.s q4) rfl) v4 w4 (.sl (s:=q5) (hr 5 (.s q5) rfl) v5 w5 (.nil _ _)))))),fun p hp=>?_,?_⟩
 ·simp only [List.mem_append,List.mem_cons,List.not_mem_nil,or_false] at hp
  rcases hp with rfl | rfl | rfl | hp | hp | hp
  ·exact hb
  ·exact hb
  ·exact hb
  ·exact b3 p hp
  ·exact b4 p hp
  ·exact b5 p hp
 ·simp only [List.length_append,List.length_cons,List.length_nil]; omega
theorem q4z.walk {m0 m:Mem} {s:Sl} {l:List (Frame)} (h:q4z m0 m s l) (hs:qbi l):∃ pos,Walk m (.rows q39 s.len) s.blk s.off pos/\(∀ p ∈ pos,m0.size<=p.1)/\pos.length<=3298538029056:=by
 obtain ⟨pos,h1,h2,h3⟩:=CpS.walk (sz:=5) (r:=q39) h rfl (fun cs x hx hr=>q1o.walk hr (hs.2 x hx))
 exact ⟨pos,h1,h2,Nat.le_trans h3 (Nat.le_trans (Nat.mul_le_mul_right 3145731 hs.1) (by decide))⟩
theorem qoi {m:Mem} {x:Frame} {q3 q4 q5:Sl} (h3:q03 m q3 (x.regs)) (h4:q03 m q4 (x.own)) (h5:q03 m q5 (x.held)) {left:Int} (z0:Lft left):q08 Tryz.prog qac [.agg #[vi x.proc,vi x.pc,vi x.dst,Sl.v q3,Sl.v q4,Sl.v q5],vi left] m (SzR left (qaj x) m):=by
 apply qik
 simp -zeta only [q0a,q09,rI,rS,rB,cI,cB,cS,dI,dB,dS,gk,rg]
 intro m1
 have e0:Ext m m1:=(Ext.refl m).pushed _
 have s1:m1.size=m.size+1:=by simp [m1]
 clear_value m1
 obtain ⟨z1,z2⟩:=z0
 refine (q2i (h3.ext e0) (left:=left) ⟨by omega,by omega⟩).mono ?_
 rintro _ m2 ⟨n1,rfl,le1,sm1,x1⟩
 have e1:Ext m m2:=e0.trans x1
 refine ⟨x1.sam (by simp; omega),n1,rfl,fun h=>⟨-1,rfl,by omega,fun h=>by omega,e1⟩,fun h=>?_⟩
 simp only [decide_eq_false_iff_not] at h
 have y1:m.size+1<=m2.size:=by have:=x1.size; omega
 refine (q2i (h4.ext e1) (left:=n1) ⟨by omega,by omega⟩).mono ?_
 rintro _ m3 ⟨n2,rfl,le2,sm2,x2⟩
 have e2:Ext m m3:=e1.trans x2
 refine ⟨x2.sam (by simp; omega),n2,rfl,fun h=>⟨-1,rfl,by omega,fun h=>by omega,e2⟩,fun h=>?_⟩
 simp only [decide_eq_false_iff_not] at h
 have y2:m.size+1<=m3.size:=by have:=x2.size; omega
 refine (q2i (h5.ext e2) (left:=n2) ⟨by omega,by omega⟩).mono ?_
 rintro _ m4 ⟨n3,rfl,le3,sm3,x3⟩
 have e3:Ext m m4:=e2.trans x3
 refine ⟨x3.sam (by simp; omega),n3,rfl,fun h=>⟨-1,rfl,by omega,fun h=>by omega,e3⟩,fun h=>?_⟩
 simp only [decide_eq_false_iff_not] at h
 have y3:m.size+1<=m4.size:=by have:=x3.size; omega
 exact ⟨_,rfl,by omega,fun _=>⟨sm1 (by omega),sm2 (by omega),sm3 (by omega)⟩,e3⟩
theorem qmi {m:Mem} {s:Sl} {l:List (Frame)} (h:FrameSl m s l) {left:Int} (z0:Lft left):q08 Tryz.prog q9d [Sl.v s,vi left] m (SzR left (qbi l) m):=by
 apply qht
 have h1:=h.len
 have h2:=h.lim
 obtain ⟨h3,h4⟩:=z0
 have e:w64 (left - (s.len:Int))=left - s.len:=q07 (by omega) (by omega)
 rw [e]
 refine ⟨fun _=>⟨-1,rfl,by omega,fun h=>by omega,Ext.refl _⟩,fun h5=>?_⟩
 simp only [decide_eq_false_iff_not] at h5
 refine forSI (σ:=Int) (n:=l.length) (by omega) (fun k n m'=>0<=n/\n<=left/\Ext m m'/\∀ x ∈ l.take k,qaj x) ⟨by omega,by omega,Ext.refl _,by simp⟩ ?_
 rintro k n m1 I μ hk ⟨hn,hn2,hx,hs⟩ next
 refine ⟨fun h6=>?_,fun h6=>?_⟩
 ·simp only [decide_eq_true_eq] at h6
  obtain ⟨y,hy⟩:=q00 (l:=l) (k:=k) (by omega)
  obtain ⟨q3,q4,q5,h3,h4,h5,g0,g1,g2,g3,g4,g5⟩:=(FrameSl.ext hx h).at' hy
  refine ⟨by omega,by omega,_,g0,_,g1,_,g2,_,g3,_,g4,_,g5,(qoi h3 h4 h5 ⟨hn,by omega⟩).mono ?_⟩
  rintro _ m2 ⟨n2,rfl,le2,sm2,hx2⟩
  refine ⟨n2,rfl,fun h=>⟨-1,rfl,by omega,fun h=>by omega,hx.trans hx2⟩,fun h7=>?_⟩
  simp only [decide_eq_false_iff_not] at h7
  refine next (by omega) _ _ ⟨by omega,by omega,hx.trans hx2,fun x hxm=>?_⟩
  rw [q06 hy] at hxm
  rcases List.mem_append.1 hxm with h8 | h8
  ·exact hs x h8
  ·simp at h8; subst h8; exact sm2 (by omega)
 ·simp only [decide_eq_false_iff_not] at h6
  rw [q0b (by omega)] at hs
  exact ⟨n,rfl,hn2,fun _=>⟨by omega,hs⟩,hx⟩
theorem qob {m:Mem} {x:Frame} {q3 q4 q5:Sl} (h3:q03 m q3 (x.regs)) (h4:q03 m q4 (x.own)) (h5:q03 m q5 (x.held)) (hs:qaj x):q08 Tryz.prog qa7 [.agg #[vi x.proc,vi x.pc,vi x.dst,Sl.v q3,Sl.v q4,Sl.v q5]] m fun v m'=>∃ r3 r4 r5:Sl,v=.agg #[vi x.proc,vi x.pc,vi x.dst,Sl.v r3,Sl.v r4,Sl.v r5]/\q1o m m' [.i x.proc,.i x.pc,.i x.dst,.s r3,.s r4,.s r5] x/\Ext m m':=by
 apply qjw
 simp -zeta only [q0a,q09,rI,rS,rB,cI,cB,cS,dI,dB,dS,gk,rg]
 intro m1 m2 m3
 have s1:m1.size=m.size+1:=by simp [m1]
 have s2:m2.size=m.size+2:=by simp [m2,s1]
 have s3:m3.size=m.size+3:=by simp [m3,s2]
 have x3:Ext m m3:=(((Ext.refl m).pushed _).pushed _).pushed _
 have y3:m3.size<=m3.size:=Nat.le_refl _
 clear_value m3
 intro m4
 have x4:Ext m m4:=x3.scells (by omega) _ _
 have y4:m3.size<=m4.size:=Nat.le_trans y3 (Nat.le_of_eq (q02 _ _ _ _).symm)
 have kp4:Kp m3.size m3 m4:=Kp.box (by omega) _ _
 clear_value m4
 intro m5
 have x5:Ext m m5:=x4.scells (by omega) _ _
 have y5:m3.size<=m5.size:=Nat.le_trans y4 (Nat.le_of_eq (q02 _ _ _ _).symm)
 have kp5:Kp m3.size m4 m5:=Kp.box (by omega) _ _
 clear_value m5
 intro m6
 have x6:Ext m m6:=x5.scells (by omega) _ _
 have y6:m3.size<=m6.size:=Nat.le_trans y5 (Nat.le_of_eq (q02 _ _ _ _).symm)
 have kp6:Kp m3.size m5 m6:=Kp.box (by omega) _ _
 clear_value m6
 refine (q2g (h3.ext x6) hs.1).mono ?_
 rintro _ m7 ⟨r3,rfl,c3,u7⟩
 have x7:Ext m m7:=x6.trans u7
 have y7:m3.size<=m7.size:=by have:=u7.size; omega
 have kp7:Kp m3.size m6 m7:=Kp.ext u7
 replace c3:=Own.base (m0:=m3) c3 y6
 refine ⟨u7.sam (by simp; omega),r3,rfl,?_⟩
 intro m8
 have x8:Ext m m8:=x7.scells (by omega) _ _
 have y8:m3.size<=m8.size:=Nat.le_trans y7 (Nat.le_of_eq (q02 _ _ _ _).symm)
 have kp8:Kp m3.size m7 m8:=Kp.box (by omega) _ _
 clear_value m8
 replace c3:=c3.keep (kp8)
 refine (q2g (h4.ext x8) hs.2.1).mono ?_
 rintro _ m9 ⟨r4,rfl,c4,u9⟩
 have x9:Ext m m9:=x8.trans u9
 have y9:m3.size<=m9.size:=by have:=u9.size; omega
 have kp9:Kp m3.size m8 m9:=Kp.ext u9
 replace c3:=c3.keep (kp9)
 replace c4:=Own.base (m0:=m3) c4 y8
 refine ⟨u9.sam (by simp; omega),r4,rfl,?_⟩
 intro m10
 have x10:Ext m m10:=x9.scells (by omega) _ _
 have y10:m3.size<=m10.size:=Nat.le_trans y9 (Nat.le_of_eq (q02 _ _ _ _).symm)
 have kp10:Kp m3.size m9 m10:=Kp.box (by omega) _ _
 clear_value m10
 replace c3:=c3.keep (kp10)
 replace c4:=c4.keep (kp10)
 refine (q2g (h5.ext x10) hs.2.2).mono ?_
 rintro _ m11 ⟨r5,rfl,c5,u11⟩
 have x11:Ext m m11:=x10.trans u11
 have y11:m3.size<=m11.size:=by have:=u11.size; omega
 have kp11:Kp m3.size m10 m11:=Kp.ext u11
 replace c3:=c3.keep (kp11)
 replace c4:=c4.keep (kp11)
 replace c5:=Own.base (m0:=m3) c5 y10
 refine ⟨u11.sam (by simp; omega),r5,rfl,?_⟩
 intro m12
 have x12:Ext m m12:=x11.scells (by omega) _ _
 have y12:m3.size<=m12.size:=Nat.le_trans y11 (Nat.le_of_eq (q02 _ _ _ _).symm)
 have kp12:Kp m3.size m11 m12:=Kp.box (by omega) _ _
 clear_value m12
 replace c3:=c3.keep (kp12)
 replace c4:=c4.keep (kp12)
 replace c5:=c5.keep (kp12)
 intro m13
 have x13:Ext m m13:=x12.scells (by omega) _ _
 have kp13:Kp m3.size m12 m13:=Kp.box (by omega) _ _
 clear_value m13
 replace c3:=c3.keep (kp13)
 replace c4:=c4.keep (kp13)
 replace c5:=c5.keep (kp13)
 have hR:q1o m3 m13 [.i x.proc,.i x.pc,.i x.dst,.s r3,.s r4,.s r5] x:=⟨r3,r4,r5,rfl,c3,c4,c5⟩
 exact ⟨r3,r4,r5,rfl,q1o.mono (Kp.ext (Ext.refl _)) (by omega) hR,x13⟩
theorem qnd {m:Mem} {s:Sl} {l:List (Frame)} (h:FrameSl m s l) (hs:qbi l):q08 Tryz.prog q93 [Sl.v s] m fun v m'=>∃ s',v=Sl.v s'/\q4z m m' s' l/\Ext m m':=by
 apply qhv
 have hsl:=h.len
 have hl:=hs.1
 have e0:Int.toNat (s.len:Int)=l.length:=by omega
 rw [e0]
 refine ⟨by omega,Int.le_refl _,by omega,by omega,?_⟩
 intro m1
 have x1:Ext m m1:=(Ext.refl m).pushed _
 have s1:m1.size=m.size+1:=by simp [m1]
 have k1:Blk m1 m.size q1l (zrow [.i (0:Int),.i (0:Int),.i (0:Int),.s Sl.nil,.s Sl.nil,.s Sl.nil] l.length):=Blk.push m _ _
 clear_value m1
 simp -zeta only [Sl.blk_mk,Sl.off_mk,Sl.len_mk,Nat.zero_add]
 refine forI (n:=l.length) (by omega) (fun k m'=>Ext m m'/\m1.size<=m'.size/\∃ css,Blk m' m.size q1l (css.flatten ++ zrow [.i (0:Int),.i (0:Int),.i (0:Int),.s Sl.nil,.s Sl.nil,.s Sl.nil] (l.length - css.length))/\css.length=k/\RowsOf 6 (q1o m1 m') css (l.take k)) ⟨x1,Nat.le_refl _,[],by simpa using k1,rfl,by simpa using RowsOf.nil _ _⟩ ?_
 rintro k m2 I μ hk ⟨hx,hm2,css,kk,hck,hrow⟩ next
 refine ⟨fun h6=>?_,fun h6=>?_⟩
 ·simp only [decide_eq_true_eq] at h6
  obtain ⟨y,hy⟩:=q00 (l:=l) (k:=k) (by omega)
  obtain ⟨q3,q4,q5,h3,h4,h5,g0,g1,g2,g3,g4,g5⟩:=(FrameSl.ext hx h).at' hy
  refine ⟨by omega,by omega,_,g0,_,g1,_,g2,_,g3,_,g4,_,g5,(qob h3 h4 h5 (hs.2 y (q05 hy))).mono ?_⟩
  rintro _ m3 ⟨r3,r4,r5,rfl,hc,x3⟩
  have ek:Int.toNat (k:Int)=k:=by omega
  have hm3:=x3.size
  refine ⟨_,_,_,_,_,_,rfl,by omega,by omega,?_⟩
  rw [ek]
  have hfl:css.flatten.length=k*6:=by rw [q0g hrow.size,hck]
  refine ⟨(kk.ext x3).wrOk (by rw [List.length_append,hfl,qad,hck]; simp only [List.length_cons,List.length_nil]; omega),next (by omega) _ ⟨(hx.trans x3).scells (Nat.le_refl _) _ _,by rw [q02]; omega,css ++ [[.i y.proc,.i y.pc,.i y.dst,.s r3,.s r4,.s r5]],?_,by simp [hck],?_⟩⟩
  ·have:=Blk.scells (m:=m3) (o:=k*6) (r:=[.i y.proc,.i y.pc,.i y.dst,.s r3,.s r4,.s r5]) (kk.ext x3)
   have e1:=fillRow (css:=css) (zs:=[.i (0:Int),.i (0:Int),.i (0:Int),.s Sl.nil,.s Sl.nil,.s Sl.nil]) (cs:=[.i y.proc,.i y.pc,.i y.dst,.s r3,.s r4,.s r5]) (n:=l.length) hrow.size rfl (by omega)
   simp only [List.length_cons,List.length_nil,Nat.zero_add,hck] at e1
   rw [hck] at this
   rw [e1] at this
   simpa [hck] using this
  ·rw [q06 hy]
   have kp:Kp m1.size m2 (scells m3 m.size (k*6) [.i y.proc,.i y.pc,.i y.dst,.s r3,.s r4,.s r5]):=fun b hb1 hb2=>by rw [q0n _ _ _ _ (by omega),x3.same b hb2]
   refine RowsOf.snoc ⟨hrow.len,hrow.size,fun j cs x hj hx=>q1o.mono kp (Nat.le_refl _) (hrow.each j cs x hj hx)⟩ rfl (q1o.mono (m0:=m2) (m1:=m1) (m:=m3) (Kp.box (by omega) _ _) (by omega) hc)
 ·simp only [decide_eq_false_iff_not] at h6
  have:k=l.length:=by omega
  subst this
  rw [q0b (Nat.le_refl _)] at hrow
  have e2:l.length - css.length=0:=by omega
  rw [e2] at kk
  simp only [zrow,List.replicate_zero,List.flatten_nil,List.append_nil] at kk
  exact ⟨_,rfl,⟨css,⟨by simp only [Sl.len_mk]; rw [q0g hrow.size,hck],Or.inr ⟨m.size,l.length,[],rfl,Nat.le_refl _,by rw [List.append_nil]; exact kk,by rw [List.append_nil,q0g hrow.size,hck],Nat.le_refl _⟩⟩,hrow.len,hrow.size,fun j cs x hj hx=>q1o.mono (Kp.ext (Ext.refl _)) (by omega) (hrow.each j cs x hj hx)⟩,hx⟩
theorem qnn {m:Mem} {x y:Frame} {q3 q4 q5 r3 r4 r5:Sl} (h3:q03 m q3 (x.regs)) (h4:q03 m q4 (x.own)) (h5:q03 m q5 (x.held)) (k3:q03 m r3 (y.regs)) (k4:q03 m r4 (y.own)) (k5:q03 m r5 (y.held)):q0o Tryz.prog qap [.agg #[vi x.proc,vi x.pc,vi x.dst,Sl.v q3,Sl.v q4,Sl.v q5],.agg #[vi y.proc,vi y.pc,vi y.dst,Sl.v r3,Sl.v r4,Sl.v r5]] m (x=y):=by
 apply qkd
 simp -zeta only [q0a,q09,rI,rS,rB,cI,cB,cS,dI,dB,dS,gk,rg]
 intro m1 m2
 have x2:Ext m m2:=((Ext.refl m).pushed _).pushed _
 have s1:m1.size=m.size+1:=by simp [m1]
 have s2:m2.size=m.size+2:=by simp [m2,s1]
 have y2:m.size+2<=m2.size:=by omega
 clear_value m2
 refine ⟨fun h=>retF (fun e=>by subst e; simp at h) x2,fun i0=>?_⟩
 simp only [bne_eq_false_iff_eq] at i0
 refine ⟨fun h=>retF (fun e=>by subst e; simp at h) x2,fun i1=>?_⟩
 simp only [bne_eq_false_iff_eq] at i1
 refine ⟨fun h=>retF (fun e=>by subst e; simp at h) x2,fun i2=>?_⟩
 simp only [bne_eq_false_iff_eq] at i2
 refine (q2h (h3.ext x2) (k3.ext x2)).mono ?_
 rintro _ m3 ⟨b3,rfl,hb3,u3⟩
 have x3:Ext m m3:=x2.trans u3
 have y3:m.size+2<=m3.size:=by have:=u3.size; omega
 refine ⟨u3.sam (by simp; omega),b3,rfl,fun h=>retF (fun e=>by subst e; exact nb hb3 h rfl) x3,fun h=>?_⟩
 have i3:=yb hb3 h
 clear h
 refine (q2h (h4.ext x3) (k4.ext x3)).mono ?_
 rintro _ m4 ⟨b4,rfl,hb4,u4⟩
 have x4:Ext m m4:=x3.trans u4
 have y4:m.size+2<=m4.size:=by have:=u4.size; omega
 refine ⟨u4.sam (by simp; omega),b4,rfl,fun h=>retF (fun e=>by subst e; exact nb hb4 h rfl) x4,fun h=>?_⟩
 have i4:=yb hb4 h
 clear h
 refine (q2h (h5.ext x4) (k5.ext x4)).mono ?_
 rintro _ m5 ⟨b5,rfl,hb5,u5⟩
 have x5:Ext m m5:=x4.trans u5
 have y5:m.size+2<=m5.size:=by have:=u5.size; omega
 refine ⟨u5.sam (by simp; omega),b5,rfl,fun h=>retF (fun e=>by subst e; exact nb hb5 h rfl) x5,fun h=>?_⟩
 have i5:=yb hb5 h
 clear h
 refine retT ?_ x5
 cases x; cases y; simp only [] at i0 i1 i2 i3 i4 i5
 simp only [i0,i1,i2,i3,i4,i5]
theorem qni {m:Mem} {s t:Sl} {l r:List (Frame)} (hs:FrameSl m s l) (ht:FrameSl m t r):q0o Tryz.prog q9b [Sl.v s,Sl.v t] m (l=r):=by
 apply qi0
 have hsl:=hs.len
 have htl:=ht.len
 refine ⟨fun h=>retF (fun e=>?_) (Ext.refl _),fun h=>?_⟩
 ·subst e; simp at h; omega
 ·have hlen:l.length=r.length:=by simp at h; omega
  refine forI (n:=l.length) (hsl ▸ hs.lim) (fun k m'=>Ext m m'/\l.take k=r.take k) ⟨Ext.refl _,by simp⟩ ?_
  rintro k m1 I μ hk ⟨hx,he⟩ next
  refine ⟨fun h1=>?_,fun h1=>?_⟩
  ·simp only [decide_eq_true_eq] at h1
   obtain ⟨y,hy⟩:=q00 (l:=l) (k:=k) (by omega)
   obtain ⟨z,hz⟩:=q00 (l:=r) (k:=k) (by omega)
   obtain ⟨q3,q4,q5,h3,h4,h5,g0,g1,g2,g3,g4,g5⟩:=(FrameSl.ext hx hs).at' hy
   obtain ⟨r3,r4,r5,k3,k4,k5,f0,f1,f2,f3,f4,f5⟩:=(FrameSl.ext hx ht).at' hz
   refine ⟨by omega,by omega,_,g0,_,g1,_,g2,_,g3,_,g4,_,g5,by omega,by omega,_,f0,_,f1,_,f2,_,f3,_,f4,_,f5,(qnn h3 h4 h5 k3 k4 k5).mono ?_⟩
   rintro _ m2 ⟨b,rfl,hb,x2⟩
   refine ⟨b,rfl,fun h2=>retF (fun e=>nb hb h2 ?_) (hx.trans x2),fun h2=>next (by omega) _ ⟨hx.trans x2,?_⟩⟩
   ·subst e; rw [hy] at hz; simpa using hz
   ·rw [q06 hy,q06 hz,he,yb hb h2]
  ·simp only [decide_eq_false_iff_not] at h1
   rw [q0b (by omega),q0b (by omega)] at he
   exact retT he hx
theorem qjy {m:Mem} {s:Sl} {pos:List (Nat × Nat)} (h:Walk m (.rows q39 s.len) s.blk s.off pos) (hlim:s.len<=9223372036854775807) {k:Int} (hk:0<=k/\k+pos.length<=4611686018427387904):q08 Tryz.prog q7k [Sl.v s,vi k] m (MarkR k pos m):=by
 apply qfb
 obtain ⟨ps,hpl,rfl,hp⟩:=Walk.split h
 refine forSI (σ:=Int) (n:=s.len) hlim (fun j c m'=>c=k+(ps.take j).flatten.length/\MkR m k (ps.take j).flatten m') ⟨by simp,MkR.nil (Ext.refl _) _⟩ ?_
 rintro j c m1 I μ hj ⟨rfl,G⟩ next
 refine ⟨fun h1=>?_,fun h1=>?_⟩
 ·simp only [decide_eq_true_eq] at h1
  obtain ⟨pj,hpj⟩:=q00 (l:=ps) (k:=j) (by omega)
  have hlen:(ps.take j).flatten.length+pj.length<=ps.flatten.length:=by
   have e1:(ps.take (j+1)).flatten.length=(ps.take j).flatten.length+pj.length:=by rw [q06 hpj]; simp
   have e2:ps.flatten.length=(ps.take (j+1)).flatten.length+(ps.drop (j+1)).flatten.length:=by rw [← List.length_append,← List.flatten_append,List.take_append_drop]
   omega
  have hq:∀ p ∈ (ps.take j).flatten,∃ n,gcell m p.1 p.2=some (vi n):=fun p hp'=>h.ints p (by
   rw [← List.take_append_drop j ps,List.flatten_append]; exact List.mem_append_left _ hp')
  have W0:Walk m1 (.row q39) s.blk (s.off+j*6) pj:=(hp j pj hpj).mark G hq
  have ej:Int.toNat (j:Int)=j:=by omega
  have hnext:(ps.take (j+1)).flatten=(ps.take j).flatten ++ pj:=by rw [q06 hpj]; simp
  generalize hacc:(ps.take j).flatten=acc at *
  refine ⟨by omega,by omega,?_⟩
  rw [ej]
  simp only [q39] at W0
  obtain ⟨v0,p0,g0,f0,rfl,W1⟩:=Walk.inv_int W0
  have e0:w64 (k+((acc).length:Int)+1)=k+((acc ++ [(s.blk,s.off+j*6)]).length:Int):=by simp only [List.length_append,List.length_cons,List.length_nil] at hlen ⊢; rw [q07 (by omega) (by omega)]; omega
  refine ⟨fun i hi=>?_,?_⟩
  ·have:i=0:=by omega
   subst this; exact ⟨by rw [Nat.add_zero]; rw [show gcell m1 s.blk (s.off+j*6)=_ from g0]; rfl,f0⟩
  rw [e0]
  intro m2
  have O0:MkR m1 (k+((acc).length:Int)) [(s.blk,s.off+j*6)] m2:=MkR.one (by rw [show gcell m1 s.blk (s.off+j*6)=_ from g0]; rfl) _
  replace W1:=W1.mark O0 (by simpa using ⟨v0,g0⟩)
  replace G:=G.trans O0
  clear_value m2
  refine ⟨by omega,by omega,?_⟩
  obtain ⟨v1,p1,g1,f1,rfl,W2⟩:=Walk.inv_int W1
  have e1:w64 (k+((acc ++ [(s.blk,s.off+j*6)]).length:Int)+1)=k+((acc ++ [(s.blk,s.off+j*6)] ++ [(s.blk,s.off+j*6+1)]).length:Int):=by simp only [List.length_append,List.length_cons,List.length_nil] at hlen ⊢; rw [q07 (by omega) (by omega)]; omega
  refine ⟨fun i hi=>?_,?_⟩
  ·have:i=0:=by omega
   subst this; exact ⟨by rw [Nat.add_zero]; rw [show gcell m2 s.blk (s.off+j*6+1)=_ from g1]; rfl,f1⟩
  rw [e1]
  intro m3
  have O1:MkR m2 (k+((acc ++ [(s.blk,s.off+j*6)]).length:Int)) [(s.blk,s.off+j*6+1)] m3:=MkR.one (by rw [show gcell m2 s.blk (s.off+j*6+1)=_ from g1]; rfl) _
  replace W2:=W2.mark O1 (by simpa using ⟨v1,g1⟩)
  replace G:=G.trans O1
  clear_value m3
  refine ⟨by omega,by omega,?_⟩
  obtain ⟨v2,p2,g2,f2,rfl,W3⟩:=Walk.inv_int W2
  have e2:w64 (k+((acc ++ [(s.blk,s.off+j*6)] ++ [(s.blk,s.off+j*6+1)]).length:Int)+1)=k+((acc ++ [(s.blk,s.off+j*6)] ++ [(s.blk,s.off+j*6+1)] ++ [(s.blk,s.off+j*6+2)]).length:Int):=by simp only [List.length_append,List.length_cons,List.length_nil] at hlen ⊢; rw [q07 (by omega) (by omega)]; omega
  refine ⟨fun i hi=>?_,?_⟩
  ·have:i=0:=by omega
   subst this; exact ⟨by rw [Nat.add_zero]; rw [show gcell m3 s.blk (s.off+j*6+2)=_ from g2]; rfl,f2⟩
  rw [e2]
  intro m4
  have O2:MkR m3 (k+((acc ++ [(s.blk,s.off+j*6)] ++ [(s.blk,s.off+j*6+1)]).length:Int)) [(s.blk,s.off+j*6+2)] m4:=MkR.one (by rw [show gcell m3 s.blk (s.off+j*6+2)=_ from g2]; rfl) _
  replace W3:=W3.mark O2 (by simpa using ⟨v2,g2⟩)
  replace G:=G.trans O2
  clear_value m4
  refine ⟨by omega,by omega,?_⟩
  obtain ⟨t3,p3,d3,g3,L3,V3,rfl,W4⟩:=Walk.inv_sl W3
  refine ⟨t3,g3,(q20 V3 (k:=k+((acc ++ [(s.blk,s.off+j*6)] ++ [(s.blk,s.off+j*6+1)] ++ [(s.blk,s.off+j*6+2)]).length:Int)) (by simp only [List.length_append,List.length_cons,List.length_nil] at hlen ⊢; omega)).mono ?_⟩
  rintro _ m5 ⟨rfl,O3⟩
  have e3:k+((acc ++ [(s.blk,s.off+j*6)] ++ [(s.blk,s.off+j*6+1)] ++ [(s.blk,s.off+j*6+2)]).length:Int)+(p3.length:Int)=k+((acc ++ [(s.blk,s.off+j*6)] ++ [(s.blk,s.off+j*6+1)] ++ [(s.blk,s.off+j*6+2)] ++ p3).length:Int):=by simp only [List.length_append]; omega
  rw [e3]
  replace W4:=W4.mark O3 V3.ints
  replace G:=G.trans O3
  refine ⟨_,rfl,?_⟩
  refine ⟨by omega,by omega,?_⟩
  obtain ⟨t4,p4,d4,g4,L4,V4,rfl,W5⟩:=Walk.inv_sl W4
  refine ⟨t4,g4,(q20 V4 (k:=k+((acc ++ [(s.blk,s.off+j*6)] ++ [(s.blk,s.off+j*6+1)] ++ [(s.blk,s.off+j*6+2)] ++ p3).length:Int)) (by simp only [List.length_append,List.length_cons,List.length_nil] at hlen ⊢; omega)).mono ?_⟩
  rintro _ m6 ⟨rfl,O4⟩
  have e4:k+((acc ++ [(s.blk,s.off+j*6)] ++ [(s.blk,s.off+j*6+1)] ++ [(s.blk,s.off+j*6+2)] ++ p3).length:Int)+(p4.length:Int)=k+((acc ++ [(s.blk,s.off+j*6)] ++ [(s.blk,s.off+j*6+1)] ++ [(s.blk,s.off+j*6+2)] ++ p3 ++ p4).length:Int):=by simp only [List.length_append]; omega
  rw [e4]
  replace W5:=W5.mark O4 V4.ints
  replace G:=G.trans O4
  refine ⟨_,rfl,?_⟩
  refine ⟨by omega,by omega,?_⟩
  obtain ⟨t5,p5,d5,g5,L5,V5,rfl,W6⟩:=Walk.inv_sl W5
  refine ⟨t5,g5,(q20 V5 (k:=k+((acc ++ [(s.blk,s.off+j*6)] ++ [(s.blk,s.off+j*6+1)] ++ [(s.blk,s.off+j*6+2)] ++ p3 ++ p4).length:Int)) (by simp only [List.length_append,List.length_cons,List.length_nil] at hlen ⊢; omega)).mono ?_⟩
  rintro _ m7 ⟨rfl,O5⟩
  have e5:k+((acc ++ [(s.blk,s.off+j*6)] ++ [(s.blk,s.off+j*6+1)] ++ [(s.blk,s.off+j*6+2)] ++ p3 ++ p4).length:Int)+(p5.length:Int)=k+((acc ++ [(s.blk,s.off+j*6)] ++ [(s.blk,s.off+j*6+1)] ++ [(s.blk,s.off+j*6+2)] ++ p3 ++ p4 ++ p5).length:Int):=by simp only [List.length_append]; omega
  rw [e5]
  replace W6:=W6.mark O5 V5.ints
  replace G:=G.trans O5
  refine ⟨_,rfl,?_⟩
  have hz:=Walk.inv_nil W6
  subst hz
  refine next (by omega) _ _ ⟨?_,?_⟩
  ·rw [hnext]; simp
  ·rw [hnext]; simpa using G
 ·simp only [decide_eq_false_iff_not] at h1
  have:j=s.len:=by omega
  subst this
  rw [q0b (by omega)] at G
  exact ⟨by rw [q0b (by omega)],G⟩
/-! State -/
def qt2:Row:=.int (.int (.int (.int (.sl (.int .nil) (.sl q3s (.sl q39 (.nil)))))))
def q8g (x:St):Prop:=(x.out).length<=1048576/\qdr x.heap/\qbi x.frames
def q32 (m0 m:Mem) (cs:List Ce) (x:St):Prop:=∃ q4 q5 q6:Sl,cs=[.i x.status,.i x.value,.i x.calls,.i x.most,.s q4,.s q5,.s q6]/\CpI m0 m q4 (x.out)/\q5q m0 m q5 (x.heap)/\q4z m0 m q6 (x.frames)
theorem q32.mono {m0 m m1 m':Mem} (hk:Kp m0.size m m') (hb:m1.size<=m0.size) {cs:List Ce} {x:St}:q32 m0 m cs x->q32 m1 m' cs x:=by
 rintro ⟨q4,q5,q6,rfl,h4,h5,h6⟩
 exact ⟨q4,q5,q6,rfl,(h4.keep hk).base hb,CpS.mono h5 (fun _ _=>q1q.mono hk hb) hk hb,CpS.mono h6 (fun _ _=>q1o.mono hk hb) hk hb⟩
theorem q32.walk {m0 m:Mem} {cs:List Ce} {x:St} (h:q32 m0 m cs x) (hs:q8g x) (b o:Nat) (hr:rowIs m b o cs) (hf:∀ i,i < cs.length->Vc.froz m b (o+i)=false) (hb:m0.size<=b):∃ pos,Walk m (.row qt2) b o pos/\(∀ p ∈ pos,m0.size<=p.1)/\pos.length<=4398052802564:=by
 obtain ⟨q4,q5,q6,rfl,h4,h5,h6⟩:=h
 obtain ⟨p4,w4,b4,l4⟩:=CpI.walk h4 hs.1
 have v4:q4.len<=9223372036854775807:=by have:=CpI.slen h4; have:(x.out).length<=1048576:=hs.1; omega
 have v5:q5.len<=9223372036854775807:=by have:=CpS.len (sz:=2) h5; have:=hs.2.1.1; omega
 obtain ⟨p5,w5,b5,l5⟩:=CpS.walk (sz:=2) (r:=q3s) h5 rfl (fun cs x hx hr=>q1q.walk hr (hs.2.1.2 x hx))
 have g5:p5.length<=1048576*1048578:=Nat.le_trans l5 (Nat.mul_le_mul_right _ hs.2.1.1)
 have v6:q6.len<=9223372036854775807:=by have:=CpS.len (sz:=5) h6; have:=hs.2.2.1; omega
 obtain ⟨p6,w6,b6,l6⟩:=CpS.walk (sz:=5) (r:=q39) h6 rfl (fun cs x hx hr=>q1o.walk hr (hs.2.2.2 x hx))
 have g6:p6.length<=1048576*3145731:=Nat.le_trans l6 (Nat.mul_le_mul_right _ hs.2.2.1)
 refine ⟨(b,o+0) :: ((b,o+1) :: ((b,o+2) :: ((b,o+3) :: (p4 ++ (p5 ++ (p6 ++ ([]))))))),.int (hr 0 (.i x.status) rfl) (hf 0 (by simp)) (.int (hr 1 (.i x.value) rfl) (hf 1 (by simp)) (.int (hr 2 (.i x.calls) rfl) (hf 2 (by simp)) (.int (hr 3 (.i x.most) rfl) (hf 3 (by simp)) (.sl (s:=q4) (hr 4 (.s q4) rfl) v4 w4 (.sl (s:=q5) (hr 5 (.s q5) rfl) v5 w5 (.sl (s:=q6) (hr 6 (.s q6) rfl) v6 w6 (.nil _ _))))))),fun p hp=>?_,?_⟩
 ·simp only [List.mem_append,List.mem_cons,List.not_mem_nil,or_false] at hp
  rcases hp with rfl | rfl | rfl | rfl | hp | hp | hp
  ·exact hb
  ·exact hb
  ·exact hb
  ·exact hb
  ·exact b4 p hp
  ·exact b5 p hp
  ·exact b6 p hp
 ·simp only [List.length_append,List.length_cons,List.length_nil]; omega
theorem qof {m:Mem} {x:St} {q4 q5 q6:Sl} (h4:q03 m q4 (x.out)) (h5:q0h m q5 (x.heap)) (h6:FrameSl m q6 (x.frames)) {left:Int} (z0:Lft left):q08 Tryz.prog qar [.agg #[vi x.status,vi x.value,vi x.calls,vi x.most,Sl.v q4,Sl.v q5,Sl.v q6],vi left] m (SzR left (q8g x) m):=by
 apply qjd
 simp -zeta only [q0a,q09,rI,rS,rB,cI,cB,cS,dI,dB,dS,gk,rg]
 intro m1
 have e0:Ext m m1:=(Ext.refl m).pushed _
 have s1:m1.size=m.size+1:=by simp [m1]
 clear_value m1
 obtain ⟨z1,z2⟩:=z0
 refine (q2i (h4.ext e0) (left:=left) ⟨by omega,by omega⟩).mono ?_
 rintro _ m2 ⟨n1,rfl,le1,sm1,x1⟩
 have e1:Ext m m2:=e0.trans x1
 refine ⟨x1.sam (by simp; omega),n1,rfl,fun h=>⟨-1,rfl,by omega,fun h=>by omega,e1⟩,fun h=>?_⟩
 simp only [decide_eq_false_iff_not] at h
 have y1:m.size+1<=m2.size:=by have:=x1.size; omega
 refine (qny (q0h.ext e1 h5) (left:=n1) ⟨by omega,by omega⟩).mono ?_
 rintro _ m3 ⟨n2,rfl,le2,sm2,x2⟩
 have e2:Ext m m3:=e1.trans x2
 refine ⟨x2.sam (by simp; omega),n2,rfl,fun h=>⟨-1,rfl,by omega,fun h=>by omega,e2⟩,fun h=>?_⟩
 simp only [decide_eq_false_iff_not] at h
 have y2:m.size+1<=m3.size:=by have:=x2.size; omega
 refine (qmi (FrameSl.ext e2 h6) (left:=n2) ⟨by omega,by omega⟩).mono ?_
 rintro _ m4 ⟨n3,rfl,le3,sm3,x3⟩
 have e3:Ext m m4:=e2.trans x3
 refine ⟨x3.sam (by simp; omega),n3,rfl,fun h=>⟨-1,rfl,by omega,fun h=>by omega,e3⟩,fun h=>?_⟩
 simp only [decide_eq_false_iff_not] at h
 have y3:m.size+1<=m4.size:=by have:=x3.size; omega
 exact ⟨_,rfl,by omega,fun _=>⟨sm1 (by omega),sm2 (by omega),sm3 (by omega)⟩,e3⟩
theorem q9v {m:Mem} {x:St} {q4 q5 q6:Sl} (h4:q03 m q4 (x.out)) (h5:q0h m q5 (x.heap)) (h6:FrameSl m q6 (x.frames)) (hs:q8g x):q08 Tryz.prog q26 [.agg #[vi x.status,vi x.value,vi x.calls,vi x.most,Sl.v q4,Sl.v q5,Sl.v q6]] m fun v m'=>∃ r4 r5 r6:Sl,v=.agg #[vi x.status,vi x.value,vi x.calls,vi x.most,Sl.v r4,Sl.v r5,Sl.v r6]/\q32 m m' [.i x.status,.i x.value,.i x.calls,.i x.most,.s r4,.s r5,.s r6] x/\Ext m m':=by
 apply qk5
 simp -zeta only [q0a,q09,rI,rS,rB,cI,cB,cS,dI,dB,dS,gk,rg]
 intro m1 m2 m3
 have s1:m1.size=m.size+1:=by simp [m1]
 have s2:m2.size=m.size+2:=by simp [m2,s1]
 have s3:m3.size=m.size+3:=by simp [m3,s2]
 have x3:Ext m m3:=(((Ext.refl m).pushed _).pushed _).pushed _
 have y3:m3.size<=m3.size:=Nat.le_refl _
 clear_value m3
 intro m4
 have x4:Ext m m4:=x3.scells (by omega) _ _
 have y4:m3.size<=m4.size:=Nat.le_trans y3 (Nat.le_of_eq (q02 _ _ _ _).symm)
 have kp4:Kp m3.size m3 m4:=Kp.box (by omega) _ _
 clear_value m4
 intro m5
 have x5:Ext m m5:=x4.scells (by omega) _ _
 have y5:m3.size<=m5.size:=Nat.le_trans y4 (Nat.le_of_eq (q02 _ _ _ _).symm)
 have kp5:Kp m3.size m4 m5:=Kp.box (by omega) _ _
 clear_value m5
 intro m6
 have x6:Ext m m6:=x5.scells (by omega) _ _
 have y6:m3.size<=m6.size:=Nat.le_trans y5 (Nat.le_of_eq (q02 _ _ _ _).symm)
 have kp6:Kp m3.size m5 m6:=Kp.box (by omega) _ _
 clear_value m6
 intro m7
 have x7:Ext m m7:=x6.scells (by omega) _ _
 have y7:m3.size<=m7.size:=Nat.le_trans y6 (Nat.le_of_eq (q02 _ _ _ _).symm)
 have kp7:Kp m3.size m6 m7:=Kp.box (by omega) _ _
 clear_value m7
 refine (q2g (h4.ext x7) hs.1).mono ?_
 rintro _ m8 ⟨r4,rfl,c4,u8⟩
 have x8:Ext m m8:=x7.trans u8
 have y8:m3.size<=m8.size:=by have:=u8.size; omega
 have kp8:Kp m3.size m7 m8:=Kp.ext u8
 replace c4:=Own.base (m0:=m3) c4 y7
 refine ⟨u8.sam (by simp; omega),r4,rfl,?_⟩
 intro m9
 have x9:Ext m m9:=x8.scells (by omega) _ _
 have y9:m3.size<=m9.size:=Nat.le_trans y8 (Nat.le_of_eq (q02 _ _ _ _).symm)
 have kp9:Kp m3.size m8 m9:=Kp.box (by omega) _ _
 clear_value m9
 replace c4:=c4.keep (kp9)
 refine (qnz (q0h.ext x9 h5) hs.2.1).mono ?_
 rintro _ m10 ⟨r5,rfl,c5,u10⟩
 have x10:Ext m m10:=x9.trans u10
 have y10:m3.size<=m10.size:=by have:=u10.size; omega
 have kp10:Kp m3.size m9 m10:=Kp.ext u10
 replace c4:=c4.keep (kp10)
 replace c5:=CpS.mono (m1:=m3) c5 (fun _ _=>q1q.mono (Kp.ext (Ext.refl _)) y9) (Kp.ext (Ext.refl _)) y9
 refine ⟨u10.sam (by simp; omega),r5,rfl,?_⟩
 intro m11
 have x11:Ext m m11:=x10.scells (by omega) _ _
 have y11:m3.size<=m11.size:=Nat.le_trans y10 (Nat.le_of_eq (q02 _ _ _ _).symm)
 have kp11:Kp m3.size m10 m11:=Kp.box (by omega) _ _
 clear_value m11
 replace c4:=c4.keep (kp11)
 replace c5:=CpS.mono (m1:=m3) c5 (fun _ _=>q1q.mono (kp11) (Nat.le_refl _)) (kp11) (Nat.le_refl _)
 refine (qnd (FrameSl.ext x11 h6) hs.2.2).mono ?_
 rintro _ m12 ⟨r6,rfl,c6,u12⟩
 have x12:Ext m m12:=x11.trans u12
 have y12:m3.size<=m12.size:=by have:=u12.size; omega
 have kp12:Kp m3.size m11 m12:=Kp.ext u12
 replace c4:=c4.keep (kp12)
 replace c5:=CpS.mono (m1:=m3) c5 (fun _ _=>q1q.mono (kp12) (Nat.le_refl _)) (kp12) (Nat.le_refl _)
 replace c6:=CpS.mono (m1:=m3) c6 (fun _ _=>q1o.mono (Kp.ext (Ext.refl _)) y11) (Kp.ext (Ext.refl _)) y11
 refine ⟨u12.sam (by simp; omega),r6,rfl,?_⟩
 intro m13
 have x13:Ext m m13:=x12.scells (by omega) _ _
 have y13:m3.size<=m13.size:=Nat.le_trans y12 (Nat.le_of_eq (q02 _ _ _ _).symm)
 have kp13:Kp m3.size m12 m13:=Kp.box (by omega) _ _
 clear_value m13
 replace c4:=c4.keep (kp13)
 replace c5:=CpS.mono (m1:=m3) c5 (fun _ _=>q1q.mono (kp13) (Nat.le_refl _)) (kp13) (Nat.le_refl _)
 replace c6:=CpS.mono (m1:=m3) c6 (fun _ _=>q1o.mono (kp13) (Nat.le_refl _)) (kp13) (Nat.le_refl _)
 intro m14
 have x14:Ext m m14:=x13.scells (by omega) _ _
 have kp14:Kp m3.size m13 m14:=Kp.box (by omega) _ _
 clear_value m14
 replace c4:=c4.keep (kp14)
 replace c5:=CpS.mono (m1:=m3) c5 (fun _ _=>q1q.mono (kp14) (Nat.le_refl _)) (kp14) (Nat.le_refl _)
 replace c6:=CpS.mono (m1:=m3) c6 (fun _ _=>q1o.mono (kp14) (Nat.le_refl _)) (kp14) (Nat.le_refl _)
 have hR:q32 m3 m14 [.i x.status,.i x.value,.i x.calls,.i x.most,.s r4,.s r5,.s r6] x:=⟨r4,r5,r6,rfl,c4,c5,c6⟩
 exact ⟨r4,r5,r6,rfl,q32.mono (Kp.ext (Ext.refl _)) (by omega) hR,x14⟩
theorem q6c {m:Mem} {x y:St} {q4 q5 q6 r4 r5 r6:Sl} (h4:q03 m q4 (x.out)) (h5:q0h m q5 (x.heap)) (h6:FrameSl m q6 (x.frames)) (k4:q03 m r4 (y.out)) (k5:q0h m r5 (y.heap)) (k6:FrameSl m r6 (y.frames)):q0o Tryz.prog q4k [.agg #[vi x.status,vi x.value,vi x.calls,vi x.most,Sl.v q4,Sl.v q5,Sl.v q6],.agg #[vi y.status,vi y.value,vi y.calls,vi y.most,Sl.v r4,Sl.v r5,Sl.v r6]] m (x=y):=by
 apply qk0
 simp -zeta only [q0a,q09,rI,rS,rB,cI,cB,cS,dI,dB,dS,gk,rg]
 intro m1 m2
 have x2:Ext m m2:=((Ext.refl m).pushed _).pushed _
 have s1:m1.size=m.size+1:=by simp [m1]
 have s2:m2.size=m.size+2:=by simp [m2,s1]
 have y2:m.size+2<=m2.size:=by omega
 clear_value m2
 refine ⟨fun h=>retF (fun e=>by subst e; simp at h) x2,fun i0=>?_⟩
 simp only [bne_eq_false_iff_eq] at i0
 refine ⟨fun h=>retF (fun e=>by subst e; simp at h) x2,fun i1=>?_⟩
 simp only [bne_eq_false_iff_eq] at i1
 refine ⟨fun h=>retF (fun e=>by subst e; simp at h) x2,fun i2=>?_⟩
 simp only [bne_eq_false_iff_eq] at i2
 refine ⟨fun h=>retF (fun e=>by subst e; simp at h) x2,fun i3=>?_⟩
 simp only [bne_eq_false_iff_eq] at i3
 refine (q2h (h4.ext x2) (k4.ext x2)).mono ?_
 rintro _ m3 ⟨b4,rfl,hb4,u3⟩
 have x3:Ext m m3:=x2.trans u3
 have y3:m.size+2<=m3.size:=by have:=u3.size; omega
 refine ⟨u3.sam (by simp; omega),b4,rfl,fun h=>retF (fun e=>by subst e; exact nb hb4 h rfl) x3,fun h=>?_⟩
 have i4:=yb hb4 h
 clear h
 refine (qot (q0h.ext x3 h5) (q0h.ext x3 k5)).mono ?_
 rintro _ m4 ⟨b5,rfl,hb5,u4⟩
 have x4:Ext m m4:=x3.trans u4
 have y4:m.size+2<=m4.size:=by have:=u4.size; omega
 refine ⟨u4.sam (by simp; omega),b5,rfl,fun h=>retF (fun e=>by subst e; exact nb hb5 h rfl) x4,fun h=>?_⟩
 have i5:=yb hb5 h
 clear h
 refine (qni (FrameSl.ext x4 h6) (FrameSl.ext x4 k6)).mono ?_
 rintro _ m5 ⟨b6,rfl,hb6,u5⟩
 have x5:Ext m m5:=x4.trans u5
 have y5:m.size+2<=m5.size:=by have:=u5.size; omega
 refine ⟨u5.sam (by simp; omega),b6,rfl,fun h=>retF (fun e=>by subst e; exact nb hb6 h rfl) x5,fun h=>?_⟩
 have i6:=yb hb6 h
 clear h
 refine retT ?_ x5
 cases x; cases y; simp only [] at i0 i1 i2 i3 i4 i5 i6
 simp only [i0,i1,i2,i3,i4,i5,i6]
end
section
def tab (n:Nat) (f:Nat->Int):List Int:=(List.range n).map f
theorem q4w (n:Nat) (f:Nat->Int):(tab n f).length=n:=by simp [tab]
theorem q8z {n:Nat} {f:Nat->Int} {a:Nat} (h:a < n):(tab n f)[a]?=some (f a):=by
 unfold tab; rw [List.getElem?_map,List.getElem?_range h]; rfl
theorem q1i {n:Nat} {f g:Nat->Int} (h:∀ b,b < n->f b=g b):tab n f=tab n g:=by
 unfold tab; exact List.map_congr_left fun b hb=>h b (List.mem_range.1 hb)
theorem qsc {n:Nat} {f:Nat->Int} {a:Nat} (v:Int):(tab n f).set a v=tab n (fun b=>if b=a then v else f b):=by
 apply List.ext_getElem?
 intro i
 by_cases hi:i < n
 ·rw [q8z hi]
  by_cases e:a=i
  ·subst e; rw [List.getElem?_set_self (by rw [q4w]; exact hi),if_pos rfl]
  ·rw [List.getElem?_set_ne e,q8z hi,if_neg (fun h=>e h.symm)]
 ·rw [List.getElem?_eq_none (by rw [List.length_set,q4w]; omega),List.getElem?_eq_none (by rw [q4w]; omega)]
theorem qt9 (n:Nat):tab n (fun _=>0)=q0p n:=by
 unfold tab q0p
 rw [List.map_const']; simp
structure HeapOk (h:List Cell):Prop where
 trimmed:Trimmed h
 cells:∀ c ∈ h,CellOk h c
 refs:∀ (a:Nat) (c:Cell),h[a]?=some c->0 < c.count->refs h a<=c.count
 acyc:Acyc h
structure RegsOk (h:List Cell) (f:Frame):Prop where
 each:∀ (k:Nat) (w o:Int),f.regs[k]?=some w->f.own[k]?=some o->(isInt w \/ 1000<=w)/\(0<=o/\o<=999999)/\(0 < o->live h w)
structure FrmOk (im:Image) (h:List Cell) (prev:Option Frame) (f:Frame):Prop where
 proc:0<=f.proc/\f.proc < im.procs.length
 pc:0<=f.pc/\f.pc < (q0y im f.proc).code.length
 lr:(f.regs.length:Int)=(q0y im f.proc).regs
 lo:(f.own.length:Int)=(q0y im f.proc).regs
 lh:(f.held.length:Int)=(q0y im f.proc).regs
 regs:RegsOk h f
 first:prev=none->f.dst=0
 next:∀ p,prev=some p->0<=f.dst/\f.dst < p.own.length/\at' p.own f.dst=0
def prevAt (fs:List Frame):Nat->Option Frame
 | 0=>none
 | k+1=>fs[k]?
structure HeldOk (h:List Cell) (fs:List Frame):Prop where
 words:∀ f ∈ fs,∀ w ∈ f.held,w=0 \/ (1000<=w/\ix w < h.length)
 kept:∀ (i:Nat) (c:Cell),h[i]?=some c->c.count < 0->holds fs i=1
 unkept:∀ (i:Nat) (c:Cell),h[i]?=some c->0<=c.count->holds fs i=0
structure StChk (im:Image) (s:St):Prop where
 image:ImageOk im
 status:0<=s.status/\s.status<=3
 done:s.status=0 ↔ s.frames=[]
 value:isInt s.value
 value0:s.value ≠ 0->s.status=0
 most:0<=s.most/\s.most<=40
 calls:0<=s.calls/\s.calls<=s.most
 depth:(s.frames.length:Int)<=s.calls+1
 out:∀ n ∈ s.out,isInt n
 heap:HeapOk s.heap
 frames:∀ (k:Nat) (f:Frame),s.frames[k]?=some f->FrmOk im s.heap (prevAt s.frames k) f
 held:HeldOk s.heap s.frames
 exact':∀ (a:Nat) (c:Cell),s.heap[a]?=some c->0 < c.count->c.count=refs s.heap a+owns s.frames a
theorem qqy:∀ {fs:List Frame} {a:Nat},0 < owns fs a->∃ f ∈ fs,0 < q0m f.regs f.own a
 | [],a,h=>by simp [owns] at h
 | f :: fs,a,h=>by
  simp only [owns] at h
  by_cases hf:0 < q0m f.regs f.own a
  ·exact ⟨f,by simp,hf⟩
  ·obtain ⟨g,hg,hp⟩:=qqy (fs:=fs) (a:=a) (by omega)
   exact ⟨g,by simp [hg],hp⟩
theorem qq5:∀ {regs own:List Int} {a:Nat},0 < q0m regs own a->∃ (k:Nat) (o:Int),regs[k]?=some (1000+(a:Int))/\own[k]?=some o/\0 < o
 | [],own,a,h=>by simp [q0m] at h
 | _ :: _,[],a,h=>by simp [q0m] at h
 | r :: rs,o :: os,a,h=>by
  simp only [q0m] at h
  by_cases hr:r=1000+(a:Int)/\0 < o
  ·exact ⟨0,o,by simp [hr.1],rfl,hr.2⟩
  ·have:0 < q0m rs os a:=by
    split at h
    ·rename_i e; have:¬ 0 < o:=fun ho=>hr ⟨e,ho⟩; omega
    ·omega
   obtain ⟨k,o',h1,h2,h3⟩:=qq5 this
   exact ⟨k+1,o',by simpa using h1,by simpa using h2,h3⟩
theorem quh {fs:List Frame} {f:Frame} {a:Nat} (hf:f ∈ fs) (hn:∀ g ∈ fs,0<=q0m g.regs g.own a):q0m f.regs f.own a<=owns fs a:=by
 induction fs with
 | nil=>simp at hf
 | cons g fs ih =>
  have hnn:0<=owns fs a:=by
   clear ih hf
   induction fs with
   | nil=>simp [owns]
   | cons q fs ih2 =>
    have h1:=hn q (by simp)
    have h2:=ih2 (fun x hx=>hn x (by simp at hx ⊢; rcases hx with h | h; exact Or.inl h; exact Or.inr (Or.inr h)))
    simp only [owns]; omega
  simp only [owns]
  rcases List.mem_cons.1 hf with rfl | hf
  ·omega
  ·have:=ih hf fun x hx=>hn x (by simp [hx])
   have:=hn g (by simp)
   omega
theorem owns_nn' {fs:List Frame} {a:Nat} (hn:∀ g ∈ fs,0<=q0m g.regs g.own a):0<=owns fs a:=by
 induction fs with
 | nil=>simp [owns]
 | cons q fs ih =>
  have h1:=hn q (by simp)
  have h2:=ih fun x hx=>hn x (by simp [hx])
  simp only [owns]; omega
theorem qrl {fs:List Frame} {f:Frame} {a:Nat} (hf:f ∈ fs):occ f.held a<=holds fs a:=by
 induction fs with
 | nil=>simp at hf
 | cons g fs ih =>
  simp only [holds]
  rcases List.mem_cons.1 hf with rfl | hf
  ·have:=qai fs a; omega
  ·have:=ih hf
   have:=occ_nn g.held a
   omega
theorem qo6 {fs:List Frame} {a:Nat} (h:∀ f ∈ fs,∀ w ∈ f.held,w ≠ 1000+(a:Int)):holds fs a=0:=by
 induction fs with
 | nil=>rfl
 | cons g fs ih =>
  simp only [holds]
  rw [ih fun f hf=>h f (by simp [hf]),q56 fun hm=>h g (by simp) _ hm rfl]; rfl
theorem qba {fs:List Frame} {f:Frame} (h:f ∈ fs):∃ k:Nat,fs[k]?=some f:=List.mem_iff_getElem?.1 h
theorem qnp {im:Image} {s:St} (h:StChk im s):StateOk im s:=by
 have hF:∀ f ∈ s.frames,∃ p,FrmOk im s.heap p f:=fun f hf=>let ⟨k,hk⟩:=qba hf; ⟨_,h.frames k f hk⟩
 have hnn:∀ a,∀ g ∈ s.frames,0<=q0m g.regs g.own a:=fun a g hg=>by
  obtain ⟨p,hp⟩:=hF g hg
  refine q8m (fun o ho=>?_) a
  obtain ⟨k,hk⟩:=List.mem_iff_getElem?.1 ho
  have hlt:=q04 hk
  have h1:=hp.lr
  have h2:=hp.lo
  obtain ⟨w,hw⟩:=q00 (l:=g.regs) (k:=k) (by omega)
  exact (hp.regs.each k w o hw hk).2.1.1
 refine ⟨h.image,h.status,h.done,h.value,h.value0,h.most,h.calls,h.depth,h.out,⟨h.heap.cells,h.heap.acyc,h.exact',fun a=>owns_nn' (hnn a),fun a ha=>?_⟩,h.heap.trimmed,fun f hf=>?_,fun f hf=>(h.frames 0 f hf).first rfl,fun k f g hf hg=>(h.frames (k+1) g hg).next f hf,fun a ⟨c,hc,hn⟩=>h.held.kept a c hc hn,fun a hk=>?_⟩
 ·obtain ⟨f,hf,hp⟩:=qqy ha
  obtain ⟨k,o,h1,h2,h3⟩:=qq5 hp
  obtain ⟨p,hp⟩:=hF f hf
  have:=((hp.regs.each k _ o h1 h2).2.2 h3).2
  rwa [ix_ptr] at this
 ·obtain ⟨p,hp⟩:=hF f hf
  refine ⟨hp.proc,hp.pc,hp.lr,hp.lo,hp.lh,fun w hw=>?_,fun k o w ho hw=>?_,fun w hw=>?_⟩
  ·obtain ⟨k,hk⟩:=List.mem_iff_getElem?.1 hw
   have hlt:=q04 hk
   have h1:=hp.lr
   have h2:=hp.lo
   obtain ⟨o,ho⟩:=q00 (l:=f.own) (k:=k) (by omega)
   exact (hp.regs.each k w o hk ho).1
  ·have:=hp.regs.each k w o hw ho
   exact ⟨this.2.1.1,fun hpos=>(this.2.2 hpos).1⟩
  ·rcases h.held.words f hf w hw with h1 | h1
   ·exact Or.inl h1
   ·exact Or.inr h1.1
 ·rcases Nat.lt_or_ge a s.heap.length with hlt | hge
  ·obtain ⟨c,hc⟩:=q00 hlt
   refine h.held.unkept a c hc (Int.not_lt.1 fun hn=>hk ⟨c,hc,hn⟩)
  ·refine qo6 fun f hf w hw e=>?_
   rcases h.held.words f hf w hw with h1 | h1
   ·omega
   ·have:=h1.2; rw [e,ix_ptr] at this; omega
theorem chk_of {im:Image} {s:St} (h:StateOk im s):StChk im s:=by
 have hnn:∀ a,∀ g ∈ s.frames,0<=q0m g.regs g.own a:=fun a g hg=>q8m (h.frames g hg).ownNN a
 have hkey:∀ f ∈ s.frames,∀ (k:Nat) (w o:Int),f.regs[k]?=some w->f.own[k]?=some o->0 < o->live s.heap w/\o<=999999:=fun f hf k w o hw ho hpos=>by
  have h1:=((h.frames f hf).own k o w ho hw).2 hpos
  have e:=ptr_ix h1
  have h2:=qn2 (h.frames f hf).ownNN hw ho (a:=ix w) e.symm
  have h3:=quh hf (hnn (ix w))
  have h4:=h.heap.lv (ix w) (by omega)
  obtain ⟨c,hc,hp⟩:=h4
  have h5:=h.heap.ex _ c hc hp
  have h6:=q60 s.heap (ix w)
  have h7:=(h.heap.cell c (q05 hc)).hi
  exact ⟨⟨h1,c,hc,hp⟩,by omega⟩
 refine ⟨h.image,h.status,h.done,h.value,h.value0,h.most,h.calls,h.depth,h.out,⟨h.trimmed,h.heap.cell,fun a c hc hp=>?_,h.heap.acyc⟩,fun k f hf=>?_,⟨fun f hf w hw=>?_,fun i c hc hn=>h.kept i ⟨c,hc,hn⟩,fun i c hc hn=>h.unkept i fun ⟨c',hc',hn'⟩=>?_⟩,h.heap.ex⟩
 ·have:=h.heap.ex a c hc hp
  have:=h.heap.nn a
  omega
 ·have hm:=q05 hf
  have F:=h.frames f hm
  refine ⟨F.proc,F.pc,F.lr,F.lo,F.lh,⟨fun j w o hw ho=>⟨F.reg w (q05 hw),⟨(F.own j o w ho hw).1,?_⟩,fun hp=>(hkey f hm j w o hw ho hp).1⟩⟩,fun hp=>?_,fun p hp=>?_⟩
  ·rcases Int.lt_or_le 0 o with hpos | hpos
   ·exact (hkey f hm j w o hw ho hpos).2
   ·omega
  ·cases k with
   | zero=>exact h.first f hf
   | succ k =>
    simp only [prevAt] at hp
    have:=q04 hf
    rw [List.getElem?_eq_none_iff] at hp; omega
  ·cases k with
   | zero=>simp [prevAt] at hp
   | succ k=>exact h.chain k p f hp hf
 ·rcases (h.frames f hf).held w hw with h1 | h1
  ·exact Or.inl h1
  ·refine Or.inr ⟨h1,Nat.lt_of_not_le fun hge=>?_⟩
   have h2:=h.unkept (ix w) fun ⟨c,hc,_⟩=>by have:=q04 hc; omega
   have h3:=qrl hf (a:=ix w)
   have h4:=q8x (l:=f.held) (a:=ix w) (by rw [ptr_ix h1]; exact hw)
   omega
 ·rw [hc] at hc'; simp at hc'; subst hc'; omega
end
section
def In64 (w:Int):Prop:=-9223372036854775808<=w/\w<=9223372036854775807
def FitH (h:List Cell):Prop:=∀ c ∈ h,∀ w ∈ c.fields,In64 w
theorem tabGet {M:Mem} {b n:Nat} {f:Nat->Int} (B:Blk M b ty_int ((tab n f).map Ce.i)) {a:Nat} (h:a < n):gcell M b a=some (vi (f a)):=by
 rw [B.get a,List.getElem?_map,q8z h]; rfl
theorem tabSet {M:Mem} {b n:Nat} {f:Nat->Int} (B:Blk M b ty_int ((tab n f).map Ce.i)) (a:Nat) (v:Int):Blk (scells M b a [.i v]) b ty_int ((tab n (fun x=>if x=a then v else f x)).map Ce.i):=by
 have:=B.scells (m:=M) (o:=a) (r:=[.i v])
 rw [qcw,qsc] at this; exact this
theorem tabWr {M:Mem} {b n:Nat} {f:Nat->Int} (B:Blk M b ty_int ((tab n f).map Ce.i)) {a:Nat} (h:a < n):wrOk M b a 1:=B.wrOk (by simp [q4w]; omega)
theorem tabInts {M:Mem} {b n:Nat} {f:Nat->Int} (B:Blk M b ty_int ((tab n f).map Ce.i)) (h:n<=9223372036854775807):q03 M (.mk b 0 n n) (tab n f) :=
 ⟨by simp [q4w],Nat.le_refl _,h,fun k x hk=>⟨[.i x],rfl,fun i c hc=>by
  have hk':k < n:=by have:=q04 hk; rwa [q4w] at this
  rw [q8z hk'] at hk
  simp at hk
  cases i with
  | zero=>simp at hc; subst hc; have:=tabGet B hk'; rw [hk] at this; simpa [Ce.v] using this
  | succ i=>simp at hc⟩⟩
theorem tabNew (M:Mem) (n:Nat):Blk (M.push (.cells (vals (zrow [.i (0:Int)] n)) ty_int)) M.size ty_int ((tab n (fun _=>0)).map Ce.i):=by
 rw [q72,qt9]; exact Blk.push M _ _
def TellsI (f:Nat) (args:List Value) (m:Mem) (l:List Int):Prop:=q08 Tryz.prog f args m fun v m'=>∃ s,v=Sl.v s/\q03 m' s l/\Ext m m'
theorem qp6 {m:Mem} {hp:Sl} {h:List Cell} (hh:q0h m hp h) {w:Int} (hw:In64 w):q0o Tryz.prog qbm [Sl.v hp,vi w] m (isWord h w):=by
 apply qlj
 refine (q0e _ _ _ _).then fun b m1 hb x1=>⟨b,rfl,fun h1=>retT (Or.inl (hb.1 h1)) x1,fun h1=>?_⟩
 refine (q2w (q0h.ext x1 hh) hw).then fun b2 m2 hb2 x2=>⟨b2,rfl,retB ?_ (x1.trans x2)⟩
 rw [hb2]
 exact ⟨fun h=>Or.inr h,fun h=>h.resolve_left fun hi=>fb hb h1 hi⟩
theorem qla {m:Mem} {hp f:Sl} {h:List Cell} {c:Cell} (hh:q0h m hp h) (hf:q03 m f c.fields) (hw:∀ w ∈ c.fields,In64 w):q0o Tryz.prog q8o [Sl.v hp,.agg #[vi c.count,vi c.tag,Sl.v f]] m (CellOk h c):=by
 apply qh2
 simp -zeta only [q0a,q09,rI,rS,rB,cI,cB,cS,dI,dB,dS,gk,rg]
 intro m1
 have x1:Ext m m1:=(Ext.refl m).pushed _
 have s1:m1.size=m.size+1:=by simp [m1]
 clear_value m1
 have hfl:=hf.len
 refine ⟨fun h1=>retF (fun hc=>by have:=hc.fl; simp at h1; omega) x1,fun h1=>?_⟩
 have hfl3:c.fields.length<=3:=by simp at h1; omega
 have hl:∀ b ∈ [m.size],b < m1.size:=by simp; omega
 refine (q0e _ _ _ _).thenS (Ext.refl _) hl fun b m2 hb x2 _=>⟨b,rfl,fun h2=>retF (fun hc=>nb hb h2 ⟨hc.lo,hc.hi⟩) (x1.trans x2),fun h2=>?_⟩
 have hr:=yb hb h2
 refine ⟨fun h3=>?_,fun h3=>?_⟩
 ·have h3':c.count < 1:=by simpa using h3
  refine ⟨fun h4=>?_,fun h4=>retF (fun hc=>by simp at h4; exact h4 (hc.dead h3').1) (x1.trans x2)⟩
  have h4':c.tag=0:=by simpa using h4
  refine (q4x (hf.ext (x1.trans x2))).thenS x2 hl fun b3 m3 hb3 x3 _=>⟨b3,rfl,fun h5=>?_,fun h5=>retF (fun hc=>fb hb3 h5 (hc.dead h3').2.1) ((x1.trans x2).trans x3)⟩
  have hz:=hb3.1 h5
  refine ⟨fun h6=>retT ⟨hfl3,hr.1,hr.2,fun _=>⟨h4',hz,fun h7=>by simp at h6; omega⟩,fun h7=>by omega⟩ ((x1.trans x2).trans x3),fun h6=>retB ?_ ((x1.trans x2).trans x3)⟩
  have h6':c.count=0:=by simp at h6; omega
  constructor
  ·intro h7
   have:c.fields=[]:=by simp at h7; exact List.length_eq_zero_iff.1 (by omega)
   exact ⟨hfl3,hr.1,hr.2,fun _=>⟨h4',hz,fun _=>this⟩,fun h7=>by omega⟩
  ·intro hc
   have:=(hc.dead h3').2.2 h6'
   rw [this] at hfl
   simp [hfl]
 ·have h3':0 < c.count:=by simp at h3; omega
  refine forI (n:=c.fields.length) (by omega) (fun k m'=>Ext m1 m'/\∀ w ∈ c.fields.take k,isWord h w) ⟨x2,by simp⟩ ?_
  rintro k m3 I μ hk ⟨x3,hq⟩ next
  refine ⟨fun h4=>?_,fun h4=>?_⟩
  ·simp only [decide_eq_true_eq] at h4
   obtain ⟨w,hwk⟩:=q00 (l:=c.fields) (k:=k) (by omega)
   refine ⟨by omega,by omega,w,by simpa using (hf.ext (x1.trans x3)).at' hwk,(qp6 (q0h.ext (x1.trans x3) hh) (hw w (q05 hwk))).thenS x3 hl fun b4 m4 hb4 x4 x14=>⟨b4,rfl,fun h5=>retF (fun hc=>nb hb4 h5 ((hc.alive h3').1 w (q05 hwk))) (x1.trans x14),fun h5=>next (by omega) m4 ⟨x14,q0f hwk hq (yb hb4 h5)⟩⟩⟩
  ·simp only [decide_eq_false_iff_not] at h4
   refine (q0e _ _ _ _).thenS x3 hl fun b4 m4 hb4 x4 x14=>⟨b4,rfl,retB ?_ (x1.trans x14)⟩
   rw [hb4]
   exact ⟨fun ht=>⟨hfl3,hr.1,hr.2,fun h5=>by omega,fun _=>⟨q0w (by omega) hq,ht⟩⟩,fun hc=>(hc.alive h3').2⟩
theorem qpt {h:List Cell} {i:Nat} {c:Cell} (hc:h[i]?=some c) (a:Nat):refs (h.take (i+1)) a=refs (h.take i) a+occ c.fields a:=by
 rw [q06 hc,qb1]; simp [refs]
theorem q6q {l:List Int} {k:Nat} {w:Int} (hw:l[k]?=some w) (a:Nat):occ (l.take (k+1)) a=occ (l.take k) a+(if w=1000+(a:Int) then 1 else 0):=by
 rw [q06 hw,q4d]; simp [occ]
theorem qcr:∀ (h:List Cell) (a:Nat),(∀ c ∈ h,c.fields.length<=3)->refs h a<=3*h.length
 | [],a,_=>by simp [refs]
 | c :: h,a,hc=>by
  have h1:=qcr h a fun d hd=>hc d (by simp [hd])
  have h2:=q3d c.fields a
  have h3:=hc c (by simp)
  simp only [refs,List.length_cons]; omega
theorem qm1 {h:List Cell} (hc:∀ c ∈ h,CellOk h c) {c:Cell} (hm:c ∈ h) {w:Int} (hw:w ∈ c.fields):live h w \/ w < 1000:=by
 by_cases hp:0 < c.count
 ·rcases ((hc c hm).alive hp).1 w hw with h1 | h1
  ·have:=h1.2; exact Or.inr (by omega)
  ·exact Or.inl h1
 ·have:=((hc c hm).dead (by omega)).2.1 w hw
  exact Or.inr (by omega)
theorem qf3 {m:Mem} {hp:Sl} {h:List Cell} (hh:q0h m hp h) (hc:∀ c ∈ h,CellOk h c) (hfit:FitH h) (hsm:h.length<=1000000000):TellsI q7w [Sl.v hp] m (tab h.length (refs h)):=by
 apply ql2
 have hl:=hh.len
 have en:Int.toNat (hp.len:Int)=h.length:=by omega
 rw [en]
 refine ⟨by omega,by omega,by omega,by omega,?_⟩
 intro m1
 have x1:Ext m m1:=(Ext.refl m).pushed _
 have B1:Blk m1 m.size ty_int ((tab h.length (fun _=>0)).map Ce.i):=tabNew m _
 clear_value m1
 have h3:∀ i,∀ c ∈ h.take i,c.fields.length<=3:=fun i c hm=>(hc c (List.mem_of_mem_take hm)).fl
 refine forI (n:=h.length) (by omega) (fun i m'=>Ext m m'/\Blk m' m.size ty_int ((tab h.length (fun a=>refs (h.take i) a)).map Ce.i)) ⟨x1,by simpa [refs] using B1⟩ ?_
 rintro i m2 I μ hi ⟨x2,B2⟩ next
 refine ⟨fun h1=>?_,fun h1=>?_⟩
 ·simp only [decide_eq_true_eq] at h1
  obtain ⟨c,hci⟩:=q00 (l:=h) (k:=i) (by omega)
  have hcm:=q05 hci
  have hcl:=(hc c hcm).fl
  refine forI (n:=c.fields.length) (by omega) (fun k m'=>Ext m m'/\Blk m' m.size ty_int ((tab h.length (fun a=>refs (h.take i) a+occ (c.fields.take k) a)).map Ce.i)) ⟨x2,by simpa [occ] using B2⟩ ?_
  rintro k m3 J ν hk ⟨x3,B3⟩ next2
  obtain ⟨f,hf,_,_,g3⟩:=(q0h.ext x3 hh).at' hci
  have hfl:=hf.len
  refine ⟨by omega,by omega,f,by simpa using g3,fun h2=>?_,fun h2=>?_⟩
  ·simp only [decide_eq_true_eq] at h2
   obtain ⟨w,hw⟩:=q00 (l:=c.fields) (k:=k) (by omega)
   have hwm:=q05 hw
   have hw64:=hfit c hcm w hwm
   refine ⟨by omega,by omega,f,by simpa using g3,by omega,by omega,w,by simpa using hf.at' hw,(q2w (q0h.ext x3 hh) hw64).then fun b m4 hb x4=>⟨b,rfl,fun h4=>?_,fun h4=>?_⟩⟩
   ·have hlv:=hb.1 h4
    have hlt:=q04 (q0i hlv).1
    have e1:w64 (w - 1000)=(ix w:Nat):=by have:=hlv.1; have:=hw64.2; unfold ix; rw [q07 (by omega) (by omega)]; omega
    have e2:Int.toNat ((ix w:Nat):Int)=ix w:=by omega
    have B4:=B3.ext x4
    have q1:=qcr (h.take i) (ix w) (h3 i)
    have q2:=q3d (c.fields.take k) (ix w)
    have q3:=q60 (h.take i) (ix w)
    have q4:=occ_nn (c.fields.take k) (ix w)
    have q5:(h.take i).length<=h.length:=by simp; omega
    have q6:(c.fields.take k).length<=3:=by simp; omega
    refine ⟨by omega,by omega,f,by simpa using x4.gcell g3,by omega,by omega,w,by simpa using (hf.ext x4).at' hw,?_⟩
    rw [e1,e2]
    simp only [Sl.len_mk,Sl.blk_mk,Sl.off_mk,Nat.zero_add,Nat.mul_one]
    refine ⟨by omega,by omega,_,tabGet B4 hlt,by omega,by omega,tabWr B4 hlt,?_⟩
    rw [show w64 (refs (h.take i) (ix w)+occ (c.fields.take k) (ix w)+1)=refs (h.take i) (ix w)+occ (c.fields.take k) (ix w)+1 from q07 (by omega) (by omega)]
    refine next2 (by omega) _ ⟨(x3.trans x4).scells (Nat.le_refl _) _ _,?_⟩
    have B5:=tabSet B4 (ix w) (refs (h.take i) (ix w)+occ (c.fields.take k) (ix w)+1)
    rw [q1i (g:=fun a=>refs (h.take i) a+occ (c.fields.take (k+1)) a)] at B5
    ·exact B5
    ·intro b hb
     rw [q6q hw]
     by_cases e:b=ix w
     ·subst e; rw [if_pos rfl,if_pos (ptr_ix hlv.1).symm]; omega
     ·rw [if_neg e,if_neg (fun hw2=>e (by rw [hw2,ix_ptr]))]; omega
   ·refine next2 (by omega) m4 ⟨x3.trans x4,?_⟩
    have hno:w < 1000:=(qm1 hc hcm hwm).resolve_left (fb hb h4)
    rw [q1i (g:=fun a=>refs (h.take i) a+occ (c.fields.take k) a)]
    ·exact B3.ext x4
    ·intro b hb; rw [q6q hw,if_neg (by omega)]; omega
  ·simp only [decide_eq_false_iff_not] at h2
   refine next (by omega) m3 ⟨x3,?_⟩
   have ee:c.fields.take k=c.fields:=q0b (by omega)
   rw [ee] at B3
   rw [q1i (g:=fun a=>refs (h.take i) a+occ c.fields a)]
   ·exact B3
   ·intro b hb; exact qpt hci b
 ·simp only [decide_eq_false_iff_not] at h1
  rw [q0b (by omega)] at B2
  exact ⟨_,rfl,tabInts B2 (by omega),x2⟩
end
section
def cntB (mk:Nat->Bool):Nat->Nat
 | 0=>0
 | n+1=>cntB mk n+(if mk n=true then 1 else 0)
theorem qfp (mk:Nat->Bool):∀ n,cntB mk n<=n
 | 0=>Nat.le_refl _
 | n+1=>by have:=qfp mk n; simp only [cntB]; split <;> omega
theorem qmq {mk:Nat->Bool}:∀ {n:Nat},(cntB mk n=n ↔ ∀ i,i < n->mk i=true)
 | 0=>by simp [cntB]
 | n+1=>by
  have h1:=qfp mk n
  have h2:=qmq (mk:=mk) (n:=n)
  simp only [cntB]
  constructor
  ·intro h i hi
   have h3:mk n=true:=by by_cases e:mk n=true; exact e; rw [if_neg e] at h; omega
   rw [if_pos h3] at h
   rcases Nat.lt_or_ge i n with h4 | h4
   ·exact h2.1 (by omega) i h4
   ·have:i=n:=by omega
    rw [this]; exact h3
  ·intro h
   rw [if_pos (h n (by omega)),h2.2 fun i hi=>h i (by omega)]
theorem qo4 {mk mk':Nat->Bool}:∀ {n:Nat},(∀ i,i < n->mk i=mk' i)->cntB mk n=cntB mk' n
 | 0,_=>rfl
 | n+1,h=>by simp only [cntB]; rw [qo4 fun i hi=>h i (by omega),h n (by omega)]
def setB (mk:Nat->Bool) (a:Nat):Nat->Bool:=fun x=>if x=a then true else mk x
theorem qef (mk:Nat->Bool) (a:Nat):setB mk a a=true:=if_pos rfl
theorem q5h {mk:Nat->Bool} {a b:Nat} (h:b ≠ a):setB mk a b=mk b:=if_neg h
theorem qe7 {mk:Nat->Bool} {a b:Nat} (h:mk b=true):setB mk a b=true:=by unfold setB; split; rfl; exact h
theorem qdf {mk:Nat->Bool} {a:Nat} (h:mk a=false):∀ {n:Nat},a < n->cntB (setB mk a) n=cntB mk n+1
 | 0,ha=>absurd ha (Nat.not_lt_zero _)
 | n+1,ha=>by
  simp only [cntB]
  rcases Nat.lt_or_ge a n with h1 | h1
  ·rw [qdf h h1,q5h (by omega)]; omega
  ·have e:a=n:=by omega
   subst e
   rw [qef,if_pos rfl,h,if_neg (by simp),qo4 (mk':=mk) fun i hi=>q5h (by omega)]
def Marks (h:List Cell) (mk:Nat->Bool):Prop :=
 ∃ t:Nat->Nat,(∀ j,mk j=true->t j<=cntB mk h.length)/\∀ (i:Nat) (c:Cell),h[i]?=some c->mk i=true->∀ w ∈ c.fields,1000<=w->mk (ix w)=true/\t (ix w) < t i
def AllM (mk:Nat->Bool) (ws:List Int):Prop:=∀ w ∈ ws,1000<=w->mk (ix w)=true
theorem Marks.set {h:List Cell} {mk:Nat->Bool} (hm:Marks h mk) {a:Nat} {c:Cell} (hc:h[a]?=some c) (ha:mk a=false) (hall:AllM mk c.fields):Marks h (setB mk a):=by
 obtain ⟨t,h1,h2⟩:=hm
 have hlt:=q04 hc
 have e:=qdf ha hlt
 refine ⟨fun x=>if x=a then cntB mk h.length+1 else t x,fun j hj=>?_,fun i d hd hi w hw hp=>?_⟩
 ·simp only [e]
  split
  ·omega
  ·rename_i hja; rw [q5h hja] at hj; have:=h1 j hj; omega
 ·by_cases hia:i=a
  ·subst hia
   rw [hc] at hd; simp at hd; subst hd
   have hw1:=hall w hw hp
   have hne:ix w ≠ i:=fun e2=>by rw [e2,ha] at hw1; cases hw1
   simp only [if_pos,if_neg hne]
   exact ⟨qe7 hw1,by have:=h1 _ hw1; omega⟩
  ·rw [q5h hia] at hi
   obtain ⟨q1,q2⟩:=h2 i d hd hi w hw hp
   have hne:ix w ≠ a:=fun e2=>by rw [e2,ha] at q1; cases q1
   simp only [if_neg hia,if_neg hne]
   exact ⟨qe7 q1,q2⟩
theorem qtf {h:List Cell} {mk:Nat->Bool} (hm:Marks h mk) (hlv:∀ c ∈ h,∀ w ∈ c.fields,1000<=w->ix w < h.length) (hend:∀ (i:Nat) (c:Cell),h[i]?=some c->mk i=true \/ ¬ AllM mk c.fields) :
  cntB mk h.length=h.length ↔ Acyc h:=by
 rw [qmq]
 constructor
 ·intro hall
  obtain ⟨t,_,h2⟩:=hm
  exact ⟨t,fun i c hc w hw hp=>(h2 i c hc (hall i (q04 hc)) w hw hp).2⟩
 ·rintro ⟨rank,hr⟩
  have key:∀ (n i:Nat),rank i < n->i < h.length->mk i=true:=by
   intro n
   induction n with
   | zero=>intro i hi; omega
   | succ n ih =>
    intro i hi hlt
    obtain ⟨c,hc⟩:=q00 hlt
    rcases hend i c hc with h1 | h1
    ·exact h1
    ·refine absurd (fun w hw hp=>?_) h1
     exact ih (ix w) (by have:=hr i c hc w hw hp; omega) (hlv c (q05 hc) w hw hp)
  exact fun i hi=>key (rank i+1) i (by omega) hi
def btab (n:Nat) (f:Nat->Bool):List Ce:=(List.range n).map fun a=>Ce.t (f a)
theorem qgq (n:Nat) (f:Nat->Bool):(btab n f).length=n:=by simp [btab]
theorem btabGet {M:Mem} {b n:Nat} {f:Nat->Bool} (B:Blk M b q70 (btab n f)) {a:Nat} (h:a < n):gcell M b a=some (vb (f a)):=by
 rw [B.get a]; unfold btab; rw [List.getElem?_map,List.getElem?_range h]; rfl
theorem btabSet {M:Mem} {b n:Nat} {f:Nat->Bool} (B:Blk M b q70 (btab n f)) (a:Nat):Blk (scells M b a [.t true]) b q70 (btab n (setB f a)):=by
 have h1:=B.scells (m:=M) (o:=a) (r:=[.t true])
 have e:setL (btab n f) a [.t true]=btab n (setB f a):=by
  apply List.ext_getElem?
  intro i
  simp only [setL]
  by_cases hi:i < n
  ·have e2:∀ g:Nat->Bool,(btab n g)[i]?=some (.t (g i)):=fun g=>by unfold btab; rw [List.getElem?_map,List.getElem?_range hi]; rfl
   rw [e2]
   by_cases e:a=i
   ·subst e; rw [List.getElem?_set_self (by rw [qgq]; exact hi),qef]
   ·rw [List.getElem?_set_ne e,e2,q5h (fun h=>e h.symm)]
  ·rw [List.getElem?_eq_none (by rw [List.length_set,qgq]; omega),List.getElem?_eq_none (by rw [qgq]; omega)]
 rw [e] at h1; exact h1
theorem btabNew (M:Mem) (n:Nat):Blk (M.push (.cells (vals (zrow [.t false] n)) q70)) M.size q70 (btab n (fun _=>false)):=by
 have e:zrow [.t false] n=btab n (fun _=>false):=by
  unfold zrow btab
  rw [List.map_const']; simp
 rw [e]; exact Blk.push M _ _
theorem ql4 {m:Mem} {b n:Nat} {mk:Nat->Bool} {f:Sl} {ws:List Int} (B:Blk m b q70 (btab n mk)) (hf:q03 m f ws) (hw:∀ w ∈ ws,In64 w) (hr:∀ w ∈ ws,1000<=w->ix w < n) :
  q0o Tryz.prog q8u [Sl.v (.mk b 0 n n),Sl.v f] m (AllM mk ws):=by
 apply qh3
 have hl:=hf.len
 have hlim:=hf.lim
 refine forI (n:=ws.length) (by omega) (fun k m'=>Ext m m'/\AllM mk (ws.take k)) ⟨Ext.refl _,fun w hw=>by simp at hw⟩ ?_
 rintro k m1 I μ hk ⟨x1,hq⟩ next
 refine ⟨fun h1=>?_,fun h1=>?_⟩
 ·simp only [decide_eq_true_eq] at h1
  obtain ⟨w,hwk⟩:=q00 (l:=ws) (k:=k) (by omega)
  have hwm:=q05 hwk
  have h64:=hw w hwm
  refine ⟨by omega,by omega,w,by simpa using (hf.ext x1).at' hwk,(q1b _ _).then fun q m2 hq2 x2=>⟨q,rfl,fun h2=>?_,fun h2=>?_⟩⟩
  ·have hp:=hq2.1 h2
   have hlt:=hr w hwm hp
   have e1:w64 (w - 1000)=(ix w:Nat):=by have:=h64.2; unfold ix; rw [q07 (by omega) (by omega)]; omega
   have e2:Int.toNat ((ix w:Nat):Int)=ix w:=by omega
   refine ⟨by omega,by omega,w,by simpa using (hf.ext (x1.trans x2)).at' hwk,?_⟩
   rw [e1,e2]
   simp only [Sl.len_mk,Sl.blk_mk,Sl.off_mk,Nat.zero_add,Nat.mul_one]
   refine ⟨by omega,by omega,mk (ix w),btabGet (B.ext (x1.trans x2)) hlt,fun h3=>?_,fun h3=>next (by omega) m2 ⟨x1.trans x2,?_⟩⟩
   ·exact retF (fun hall=>by rw [hall w hwm hp] at h3; cases h3) (x1.trans x2)
   ·rw [AllM,q06 hwk]
    intro v hv hv1
    rcases List.mem_append.1 hv with hv | hv
    ·exact hq v hv hv1
    ·simp at hv; subst hv; simpa using h3
  ·refine next (by omega) m2 ⟨x1.trans x2,?_⟩
   rw [AllM,q06 hwk]
   intro v hv hv1
   rcases List.mem_append.1 hv with hv | hv
   ·exact hq v hv hv1
   ·simp at hv; subst hv; exact absurd hv1 (fb hq2 h2)
 ·simp only [decide_eq_false_iff_not] at h1
  rw [q0b (by omega)] at hq
  exact retT hq x1
theorem qld {m:Mem} {hp:Sl} {h:List Cell} (hh:q0h m hp h) (hc:∀ c ∈ h,CellOk h c) (hfit:FitH h) (hsm:h.length<=1000000000):q0o Tryz.prog q8f [Sl.v hp] m (Acyc h):=by
 apply qfu
 have hl:=hh.len
 have en:Int.toNat (hp.len:Int)=h.length:=by omega
 rw [en]
 have hlv:∀ c ∈ h,∀ w ∈ c.fields,1000<=w->ix w < h.length:=fun c hm w hw hp=>by
  rcases qm1 hc hm hw with h1 | h1
  ·exact q04 (q0i h1).1
  ·omega
 refine ⟨by omega,by omega,by omega,by omega,?_⟩
 intro m1
 have x1:Ext m m1:=(Ext.refl m).pushed _
 have B1:Blk m1 m.size q70 (btab h.length (fun _=>false)):=btabNew m _
 clear_value m1
 have c0:cntB (fun _=>false) h.length=0:=by
  generalize h.length=n
  induction n with
  | zero=>rfl
  | succ n ih=>simp [cntB,ih]
 refine whileG2 (γ:=(Nat->Bool) × Bool) (fun g many more m'=>more=g.2/\many=(cntB g.1 h.length:Nat)/\Ext m m'/\Blk m' m.size q70 (btab h.length g.1)/\Marks h g.1/\(more=false->∀ (i:Nat) (c:Cell),h[i]?=some c->g.1 i=true \/ ¬ AllM g.1 c.fields))
  (fun g=>if g.2=true then h.length - cntB g.1 h.length+1 else 0) (fun _=>false,true) ⟨rfl,by rw [c0]; rfl,x1,B1,⟨fun _=>0,by simp,by simp⟩,by simp⟩ ?_
 rintro ⟨mk,more⟩ many more' m2 I μ ⟨rfl,rfl,x2,B2,M2,E2⟩ next
 simp only at B2 M2 E2 next ⊢
 refine ⟨fun h1=>?_,fun h1=>?_⟩
 ·refine ⟨fun many1 more1 i m'=>∃ (k:Nat) (mk1:Nat->Bool),i=k/\k<=h.length/\many1=(cntB mk1 h.length:Nat)/\Ext m m'/\Blk m' m.size q70 (btab h.length mk1)/\Marks h mk1/\cntB mk h.length<=cntB mk1 h.length/\(more1=true->cntB mk h.length < cntB mk1 h.length) /\
    (more1=false->∀ (i:Nat) (c:Cell),i < k->h[i]?=some c->mk1 i=true \/ ¬ AllM mk1 c.fields),fun _ _ i _=>((h.length:Int) - i).toNat,⟨0,mk,rfl,Nat.zero_le _,rfl,x2,B2,M2,Nat.le_refl _,by simp,fun _ i c hi=>absurd hi (Nat.not_lt_zero _)⟩,?_⟩
  rintro many1 more1 i m3 ⟨k,mk1,rfl,hk,rfl,x3,B3,M3,le3,lt3,E3⟩
  have hcl:=qfp mk1 h.length
  have step:∀ {P:Prop},k < h.length->(w64 ((k:Int)+1)=((k+1:Nat):Int)->((h.length:Int) - ((k+1:Nat):Int)).toNat < ((h.length:Int) - (k:Int)).toNat->P)->P:=fun hlt hP=>hP (q6l hlt (by omega)) (mu_lt hlt)
  refine ⟨fun h2=>?_,fun h2=>?_⟩
  ·simp only [decide_eq_true_eq] at h2
   have hkl:k < h.length:=by omega
   obtain ⟨c,hck⟩:=q00 hkl
   have e2:Int.toNat (k:Int)=k:=by omega
   simp only [Sl.len_mk,Sl.blk_mk,Sl.off_mk,Nat.zero_add,Nat.mul_one,e2]
   refine ⟨by omega,by omega,mk1 k,btabGet B3 hkl,fun h3=>?_,fun h3=>?_⟩
   ·have h3':mk1 k=false:=by simpa using h3
    obtain ⟨f,hf,_,_,g3⟩:=(q0h.ext x3 hh).at' hck
    refine ⟨by omega,by omega,f,g3,(ql4 B3 hf (hfit c (q05 hck)) (hlv c (q05 hck))).then fun b m4 hb x4=>⟨b,rfl,fun h4=>?_,fun h4=>?_⟩⟩
    ·have B4:=B3.ext x4
     have es:=qdf h3' hkl
     refine ⟨by omega,by omega,B4.wrOk (by rw [qgq]; omega),?_⟩
     refine step hkl fun ew hmu=>?_
     rw [ew,show w64 ((cntB mk1 h.length:Nat)+1:Int)=((cntB (setB mk1 k) h.length:Nat):Int) by rw [es,q07 (by omega) (by omega)]; omega]
     exact ⟨⟨k+1,setB mk1 k,rfl,by omega,rfl,(x3.trans x4).scells (Nat.le_refl _) _ _,btabSet B4 k,M3.set hck h3' (hb.1 h4),by omega,fun _=>by omega,fun h5=>by cases h5⟩,hmu⟩
    ·refine step hkl fun ew hmu=>?_
     rw [ew]
     refine ⟨⟨k+1,mk1,rfl,by omega,rfl,x3.trans x4,B3.ext x4,M3,le3,lt3,fun h5 j d hj hd=>?_⟩,hmu⟩
     rcases Nat.lt_or_ge j k with h6 | h6
     ·exact E3 h5 j d h6 hd
     ·have:j=k:=by omega
      subst this
      rw [hck] at hd; simp at hd; subst hd
      exact Or.inr (fb hb h4)
   ·have h3':mk1 k=true:=by simpa using h3
    refine step hkl fun ew hmu=>?_
    rw [ew]
    refine ⟨⟨k+1,mk1,rfl,by omega,rfl,x3,B3,M3,le3,lt3,fun h5 j d hj hd=>?_⟩,hmu⟩
    rcases Nat.lt_or_ge j k with h6 | h6
    ·exact E3 h5 j d h6 hd
    ·have:j=k:=by omega
     subst this
     exact Or.inl h3'
  ·simp only [decide_eq_false_iff_not] at h2
   refine next (mk1,more1) _ _ m3 ⟨rfl,rfl,x3,B3,M3,fun h5 j d hd=>E3 h5 j d (by have:=q04 hd; omega) hd⟩ ?_
   simp only [h1,if_true]
   split
   ·rename_i h6; have:=lt3 h6; omega
   ·omega
 ·refine retB ?_ x2
  rw [← qtf M2 hlv (E2 h1)]
  simp
  omega
theorem qlv {m:Mem} {hp:Sl} {h:List Cell} (hh:q0h m hp h) (hfit:FitH h) (hsm:h.length<=1000000000):q0o Tryz.prog q8j [Sl.v hp] m (HeapOk h):=by
 apply qgf
 have hl:=hh.len
 refine ⟨fun m'=>m'=m/\Trimmed h,⟨fun h1=>?_,fun h1=>⟨rfl,fun c hc=>?_⟩⟩,?_⟩
 ·simp at h1
  rw [q07 (by omega) (by omega)]
  obtain ⟨c,hc⟩:=q00 (l:=h) (k:=h.length - 1) (by omega)
  obtain ⟨f,hf,g1,_,_⟩:=hh.at' hc
  have e:Int.toNat ((hp.len:Int) - 1)=h.length - 1:=by omega
  rw [e]
  refine ⟨by omega,by omega,c.count,g1,fun h2=>retF (fun hk=>?_) (Ext.refl _),fun h2=>⟨rfl,fun d hd=>?_⟩⟩
  ·exact hk.trimmed c hc (by simpa using h2)
  ·rw [hc] at hd; simp at hd; subst hd; simpa using h2
 ·have:=q04 hc; simp at h1; omega
 rintro m1 ⟨rfl,ht⟩
 refine forI (n:=h.length) (by omega) (fun k m'=>Ext m1 m'/\∀ c ∈ h.take k,CellOk h c) ⟨Ext.refl _,by simp⟩ ?_
 rintro k m2 I μ hk ⟨x2,hq⟩ next
 refine ⟨fun h1=>?_,fun h1=>?_⟩
 ·simp only [decide_eq_true_eq] at h1
  obtain ⟨c,hc⟩:=q00 (l:=h) (k:=k) (by omega)
  obtain ⟨f,hf,g1,g2,g3⟩:=(q0h.ext x2 hh).at' hc
  refine ⟨by omega,by omega,c.count,by simpa using g1,c.tag,by simpa using g2,f,by simpa using g3,(qla (q0h.ext x2 hh) hf (hfit c (q05 hc))).then fun b m3 hb x3=>⟨b,rfl,fun h2=>retF (fun hk=>nb hb h2 (hk.cells c (q05 hc))) (x2.trans x3),fun h2=>next (by omega) m3 ⟨x2.trans x3,q0f hc hq (yb hb h2)⟩⟩⟩
 simp only [decide_eq_false_iff_not] at h1
 have hcs:=q0w (by omega) hq
 refine (qf3 (q0h.ext x2 hh) hcs hfit hsm).mono ?_
 rintro _ m3 ⟨r,rfl,hr,x3⟩
 have hrl:=hr.len
 rw [q4w] at hrl
 refine ⟨r,rfl,forI (n:=h.length) (by omega) (fun k m'=>Ext m3 m'/\∀ (a:Nat) (c:Cell),a < k->h[a]?=some c->0 < c.count->refs h a<=c.count) ⟨Ext.refl _,fun a c ha=>absurd ha (Nat.not_lt_zero _)⟩ ?_⟩
 rintro k m4 J ν hk4 ⟨x4,hq4⟩ next4
 have x14:=(x2.trans x3).trans x4
 refine ⟨fun h2=>?_,fun h2=>?_⟩
 ·simp only [decide_eq_true_eq] at h2
  obtain ⟨c,hc⟩:=q00 (l:=h) (k:=k) (by omega)
  obtain ⟨f,hf,g1,g2,g3⟩:=(q0h.ext x14 hh).at' hc
  have more:(0 < c.count->refs h k<=c.count)->∀ (a:Nat) (d:Cell),a < k+1->h[a]?=some d->0 < d.count->refs h a<=d.count:=fun hn a d ha hd=>by
   rcases Nat.lt_or_ge a k with h6 | h6
   ·exact hq4 a d h6 hd
   ·have:a=k:=by omega
    subst this
    rw [hc] at hd; simp at hd; subst hd; exact hn
  refine ⟨by omega,by omega,c.count,by simpa using g1,fun h3=>?_,fun h3=>next4 (by omega) m4 ⟨x4,more fun h5=>by simp at h3; omega⟩⟩
  have hg:=(hr.ext x4).at' (k:=k) (q8z (f:=refs h) (show k < h.length by omega))
  refine ⟨by omega,by omega,c.count,by simpa using g1,by omega,by omega,refs h k,by simpa using hg,fun h4=>retF (fun hk=>?_) x14,fun h4=>next4 (by omega) m4 ⟨x4,more fun _=>by simp at h4; omega⟩⟩
  have:=hk.refs k c hc (by simpa using h3)
  simp at h4; omega
 ·simp only [decide_eq_false_iff_not] at h2
  refine (qld (q0h.ext x14 hh) hcs hfit hsm).then fun b m5 hb x5=>⟨b,rfl,retB ?_ (x14.trans x5)⟩
  rw [hb]
  exact ⟨fun ha=>⟨ht,hcs,fun a c hc hp=>hq4 a c (by have:=q04 hc; omega) hc hp,ha⟩,fun hk=>hk.acyc⟩
end
section
structure StR (m:Mem) (out hp fr:Sl) (s:St):Prop where
 out:q03 m out s.out
 heap:q0h m hp s.heap
 frames:FrameSl m fr s.frames
theorem StR.ext {m m':Mem} {out hp fr:Sl} {s:St} (h:StR m out hp fr s) (hx:Ext m m'):StR m' out hp fr s:=⟨h.out.ext hx,q0h.ext hx h.heap,FrameSl.ext hx h.frames⟩
def FitF (f:Frame):Prop:=(∀ w ∈ f.regs,In64 w)/\(∀ w ∈ f.own,In64 w)/\(∀ w ∈ f.held,In64 w)
structure FitS (s:St):Prop where
 calls:In64 s.calls
 heap:FitH s.heap
 frames:∀ f ∈ s.frames,FitF f
 lh:s.heap.length<=10000000
 lf:s.frames.length<=10000000
 lr:∀ f ∈ s.frames,f.regs.length<=10000000/\f.own.length<=10000000/\f.held.length<=10000000
def stV (s:St) (out hp fr:Sl):Value:=.agg #[vi s.status,vi s.value,vi s.calls,vi s.most,Sl.v out,Sl.v hp,Sl.v fr]
theorem qjb {m:Mem} {f:Sl} {l:List Int} (hf:q03 m f l):q0o Tryz.prog q7n [Sl.v f] m (∀ n ∈ l,isInt n):=by
 apply qfg
 have hl:=hf.len
 have hlim:=hf.lim
 refine forI (n:=l.length) (by omega) (fun k m'=>Ext m m'/\∀ n ∈ l.take k,isInt n) ⟨Ext.refl _,by simp⟩ ?_
 rintro k m1 I μ hk ⟨x1,hq⟩ next
 refine ⟨fun h1=>?_,fun h1=>?_⟩
 ·simp only [decide_eq_true_eq] at h1
  obtain ⟨w,hw⟩:=q00 (l:=l) (k:=k) (by omega)
  exact ⟨by omega,by omega,w,by simpa using (hf.ext x1).at' hw,(q0e _ _ _ _).then fun b m2 hb x2=>⟨b,rfl,fun h2=>retF (fun ha=>nb hb h2 (ha w (q05 hw))) (x1.trans x2),fun h2=>next (by omega) m2 ⟨x1.trans x2,q0f hw hq (yb hb h2)⟩⟩⟩
 ·simp only [decide_eq_false_iff_not] at h1
  exact retT (q0w (by omega) hq) x1
def RegOk (h:List Cell) (w o:Int):Prop:=(isInt w \/ 1000<=w)/\(0<=o/\o<=999999)/\(0 < o->live h w)
theorem ql9 {m:Mem} {hp r o e:Sl} {h:List Cell} {f:Frame} (hh:q0h m hp h) (hr:q03 m r f.regs) (ho:q03 m o f.own) (hlen:f.own.length=f.regs.length) (hfit:FitF f) (a b c:Int) :
  q0o Tryz.prog q8n [Sl.v hp,.agg #[vi a,vi b,vi c,Sl.v r,Sl.v o,Sl.v e]] m (RegsOk h f):=by
 apply qh6
 simp -zeta only [q0a,q09,rI,rS,rB,cI,cB,cS,dI,dB,dS,gk,rg]
 intro m1
 have x1:Ext m m1:=(Ext.refl m).pushed _
 have s1:m1.size=m.size+1:=by simp [m1]
 clear_value m1
 have hl:∀ b ∈ [m.size],b < m1.size:=by simp; omega
 have hrl:=hr.len
 have hol:=ho.len
 have hlim:=hr.lim
 refine forI (n:=f.regs.length) (by omega) (fun k m'=>Ext m1 m'/\∀ (j:Nat) (w o:Int),j < k->f.regs[j]?=some w->f.own[j]?=some o->RegOk h w o) ⟨Ext.refl _,fun j w o hj=>absurd hj (Nat.not_lt_zero _)⟩ ?_
 rintro k m2 I μ hk ⟨x2,hq⟩ next
 refine ⟨fun h1=>?_,fun h1=>?_⟩
 ·simp only [decide_eq_true_eq] at h1
  obtain ⟨w,hw⟩:=q00 (l:=f.regs) (k:=k) (by omega)
  obtain ⟨q,hqk⟩:=q00 (l:=f.own) (k:=k) (by omega)
  have gw:∀ {M:Mem},Ext m1 M->gcell M r.blk (r.off+Int.toNat (k:Int)*1)=some (vi w):=fun hx=>by simpa using (hr.ext (x1.trans hx)).at' hw
  have gq:∀ {M:Mem},Ext m1 M->gcell M o.blk (o.off+Int.toNat (k:Int)*1)=some (vi q):=fun hx=>by simpa using (ho.ext (x1.trans hx)).at' hqk
  have more:RegOk h w q->∀ (j:Nat) (w o:Int),j < k+1->f.regs[j]?=some w->f.own[j]?=some o->RegOk h w o:=fun hn j w' o' hj hw' ho'=>by
   rcases Nat.lt_or_ge j k with h6 | h6
   ·exact hq j w' o' h6 hw' ho'
   ·have:j=k:=by omega
    subst this
    rw [hw] at hw'; rw [hqk] at ho'; simp at hw' ho'; subst hw'; subst ho'; exact hn
  have no:¬ RegOk h w q->¬ RegsOk h f:=fun hn hk=>hn (hk.each k w q hw hqk)
  have rest:∀ {M:Mem},Ext m1 M->(isInt w \/ 1000<=w)->(0:Int)<=(k:Int)/\(k:Int) < (o.len:Int)/\∃ v32:Int,gcell M o.blk (o.off+Int.toNat (k:Int)*1)=some (vi v32) /\
    q08 Tryz.prog q0d [vi v32,vi (0:Int),vi (999999:Int)] M fun r_3 m1_4=>Sam [m.size] M m1_4/\∃ r33:Bool,r_3=vb r33 /\
    ((!r33)=true->∃ b':Bool,vb false=.bool b'/\(b'=true ↔ RegsOk h f)/\Ext m m1_4) /\
    ((!r33)=false->(0:Int)<=(k:Int)/\(k:Int) < (o.len:Int)/\∃ v41:Int,gcell m1_4 o.blk (o.off+Int.toNat (k:Int)*1)=some (vi v41) /\
    ((decide (v41 > (0:Int)))=true->q08 Tryz.prog q1w [Sl.v hp,vi w] m1_4 fun r_4 m1_5=>Sam [m.size] m1_4 m1_5/\∃ r46:Bool,r_4=vb r46 /\
     ((!r46)=true->∃ b':Bool,vb false=.bool b'/\(b'=true ↔ RegsOk h f)/\Ext m m1_5)/\((!r46)=false->I (w64 ((k:Int)+(1:Int))) m1_5/\μ (w64 ((k:Int)+(1:Int))) m1_5 < μ k m2)) /\
    ((decide (v41 > (0:Int)))=false->I (w64 ((k:Int)+(1:Int))) m1_4/\μ (w64 ((k:Int)+(1:Int))) m1_4 < μ k m2)):=fun {M} xM hi=>by
   refine ⟨by omega,by omega,q,gq xM,(q0e _ _ _ _).thenS xM hl fun b3 m3 hb3 x3 x13=>⟨b3,rfl,fun h3=>retF (no fun hn=>nb hb3 h3 hn.2.1) (x1.trans x13),fun h3=>?_⟩⟩
   have hr3:=yb hb3 h3
   refine ⟨by omega,by omega,q,gq x13,fun h4=>?_,fun h4=>next (by omega) _ ⟨x13,more ⟨hi,hr3,fun hp=>by simp at h4; omega⟩⟩⟩
   refine (q2w (q0h.ext (x1.trans x13) hh) (hfit.1 w (q05 hw))).thenS x13 hl fun b4 m4 hb4 x4 x14=>⟨b4,rfl,fun h5=>retF (no fun hn=>nb hb4 h5 (hn.2.2 (by simpa using h4))) (x1.trans x14),fun h5=>next (by omega) _ ⟨x14,more ⟨hi,hr3,fun _=>yb hb4 h5⟩⟩⟩
  refine ⟨by omega,by omega,w,gw x2,(q0e _ _ _ _).thenS x2 hl fun b3 m3 hb3 x3 x13=>⟨b3,rfl,fun h3=>?_,fun h3=>rest x13 (Or.inl (yb hb3 h3))⟩⟩
  refine (q1b _ _).thenS x13 hl fun b4 m4 hb4 x4 x14=>⟨b4,rfl,fun h4=>retF (no fun hn=>?_) (x1.trans x14),fun h4=>rest x14 (Or.inr (yb hb4 h4))⟩
  rcases hn.1 with h5 | h5
  ·exact nb hb3 h3 h5
  ·exact nb hb4 h4 h5
 ·simp only [decide_eq_false_iff_not] at h1
  exact retT ⟨fun j w o' hw ho'=>hq j w o' (by have:=q04 hw; omega) hw ho'⟩ (x1.trans x2)
theorem qka {m:Mem} {d p out hp fr:Sl} {im:Image} {s:St} (him:ImageR m d p im) (hs:StR m out hp fr s) (hfit:FitS s) {k:Nat} {f:Frame} (hf:s.frames[k]?=some f) :
  q0o Tryz.prog q75 [.agg #[Sl.v d,Sl.v p],stV s out hp fr,vi k] m (FrmOk im s.heap (prevAt s.frames k) f):=by
 apply qfh
 simp -zeta only [q0a,q09,rI,rS,rB,cI,cB,cS,dI,dB,dS,gk,rg]
 intro m1 m2
 have x2:Ext m m2:=((Ext.refl m).pushed _).pushed _
 have s1:m1.size=m.size+1:=by simp [m1]
 have s2:m2.size=m.size+2:=by simp [m2,s1]
 clear_value m2
 have hfl:=hs.frames.len
 have hflim:=hs.frames.lim
 have hkl:=q04 hf
 have hpl:=him.procs.len
 have hplim:=him.procs.lim
 obtain ⟨r,o,e,hr,ho,he,g0,g1,g2,g3,g4,g5⟩:=(hs.ext x2).frames.at' hf
 have ek:Int.toNat (k:Int)=k:=by omega
 rw [ek]
 refine ⟨by omega,by omega,_,g0,_,g1,_,g2,r,g3,o,g4,e,g5,?_⟩
 intro m3 m4
 have x4:Ext m2 m4:=((Ext.refl m2).pushed _).scells (Nat.le_refl _) _ _
 have s4:m4.size=m2.size+1:=by simp [m4,m3,q02]
 clear_value m4
 have hl:∀ b ∈ [m2.size,m1.size,m.size],b < m4.size:=by simp; omega
 have X4:=x2.trans x4
 rw [q07 (by omega) (by omega)]
 refine (q0e _ _ _ _).thenS (Ext.refl _) hl fun b5 m5 hb5 x5 _=>⟨b5,rfl,fun h1=>retF (fun hk=>nb hb5 h1 ⟨hk.proc.1,by have:=hk.proc.2; omega⟩) (X4.trans x5),fun h1=>?_⟩
 have hp1:=yb hb5 h1
 have X5:=X4.trans x5
 obtain ⟨q,hq⟩:=q00 (l:=im.procs) (k:=f.proc.toNat) (by omega)
 have hqe:q0y im f.proc=q:=by unfold q0y; rw [hq]; rfl
 obtain ⟨pa,pl,pc,hpa,hpl',hpc,k0,k1,k2,k3,k4⟩:=(him.ext X5).procs.at' hq
 have hpcl:=hpc.len
 have hpclim:=hpc.lim
 refine ⟨by omega,by omega,pa,k0,pl,k1,_,k2,_,k3,pc,k4,?_⟩
 intro m6 m7
 have x7:Ext m5 m7:=((Ext.refl m5).pushed _).scells (Nat.le_refl _) _ _
 have s7:m7.size=m5.size+1:=by simp [m7,m6,q02]
 have z5:=x5.size
 clear_value m7
 have hl7:∀ b ∈ [m5.size,m2.size,m1.size,m.size],b < m7.size:=by simp; omega
 have X7:=X5.trans x7
 rw [q07 (by omega) (by omega)]
 refine (q0e _ _ _ _).thenS (Ext.refl _) hl7 fun b8 m8 hb8 x8 _=>⟨b8,rfl,fun h2=>retF (fun hk=>nb hb8 h2 ⟨hk.pc.1,by have:=hk.pc.2; rw [hqe] at this; omega⟩) (X7.trans x8),fun h2=>?_⟩
 have hp2:=yb hb8 h2
 have X8:=X7.trans x8
 have hrl:=hr.len
 have hol:=ho.len
 have hel:=he.len
 refine ⟨fun h3=>retF (fun hk=>by have:=hk.lr; rw [hqe] at this; simp at h3; omega) X8,fun h3=>?_⟩
 have q1:(f.regs.length:Int)=q.regs:=by simp at h3; omega
 refine ⟨fun h4=>retF (fun hk=>by have:=hk.lo; rw [hqe] at this; simp at h4; omega) X8,fun h4=>?_⟩
 have q2:(f.own.length:Int)=q.regs:=by simp at h4; omega
 refine ⟨fun h5=>retF (fun hk=>by have:=hk.lh; rw [hqe] at this; simp at h5; omega) X8,fun h5=>?_⟩
 have q3:(f.held.length:Int)=q.regs:=by simp at h5; omega
 have hfm:=hfit.frames f (q05 hf)
 have x28:=((x4.trans x5).trans x7).trans x8
 refine (ql9 (hs.ext X8).heap (hr.ext x28) (ho.ext x28) (by omega) hfm _ _ _).thenS x8 hl7 fun b9 m9 hb9 x9 x79=>⟨b9,rfl,fun h6=>retF (fun hk=>nb hb9 h6 hk.regs) (X8.trans x9),fun h6=>?_⟩
 have hrg:=yb hb9 h6
 have X9:=X8.trans x9
 have mk:(prevAt s.frames k=none->f.dst=0)->(∀ p,prevAt s.frames k=some p->0<=f.dst/\f.dst < p.own.length/\at' p.own f.dst=0)->FrmOk im s.heap (prevAt s.frames k) f:=fun ha hb =>
  ⟨⟨hp1.1,by omega⟩,⟨hp2.1,by rw [hqe]; omega⟩,by rw [hqe]; exact q1,by rw [hqe]; exact q2,by rw [hqe]; exact q3,hrg,ha,hb⟩
 refine ⟨fun h7=>retB ?_ X9,fun h7=>?_⟩
 ·have hk0:k=0:=by simp at h7; omega
  subst hk0
  refine ⟨fun h8=>mk (fun _=>by simpa using h8) (fun p hp=>by simp [prevAt] at hp),fun hk=>by simpa using hk.first rfl⟩
 ·have hk1:k ≠ 0:=by simp at h7; omega
  obtain ⟨j,rfl⟩:∃ j,k=j+1:=⟨k - 1,by omega⟩
  have ej:w64 (((j+1:Nat):Int) - 1)=(j:Int):=by rw [q07 (by omega) (by omega)]; omega
  have ej2:Int.toNat (j:Int)=j:=by omega
  rw [ej,ej2]
  obtain ⟨g,hg⟩:=q00 (l:=s.frames) (k:=j) (by omega)
  have hpv:prevAt s.frames (j+1)=some g:=hg
  obtain ⟨r',o',e',hr',ho',he',_,_,_,_,y4,_⟩:=(hs.ext X9).frames.at' hg
  have hol':=ho'.len
  have holim':=ho'.lim
  refine ⟨by omega,by omega,o',y4,?_⟩
  rw [q07 (by omega) (by omega)]
  refine (q0e _ _ _ _).thenS x79 hl7 fun b10 m10 hb10 x10 _=>⟨b10,rfl,fun h8=>?_,fun h8=>retF (fun hk=>?_) (X9.trans x10)⟩
  ·have hd:=hb10.1 h8
   obtain ⟨v,hv⟩:=q00 (l:=g.own) (k:=f.dst.toNat) (by omega)
   have ev:at' g.own f.dst=v:=at_of' hv
   refine ⟨by omega,by omega,o',x10.gcell y4,by omega,by omega,v,(ho'.ext x10).at' hv,retB ?_ (X9.trans x10)⟩
   refine ⟨fun h9=>mk (fun hn=>by rw [hpv] at hn; cases hn) (fun p hp=>by rw [hpv] at hp; simp at hp; subst hp; exact ⟨hd.1,by omega,by rw [ev]; simpa using h9⟩),fun hk=>?_⟩
   have:=(hk.next g hpv).2.2
   rw [ev] at this; simpa using this
  ·have:=hk.next g hpv
   exact fb hb10 h8 ⟨this.1,by omega⟩
end
section
theorem qnt {fs:List Frame} {i:Nat} {f:Frame} (hf:fs[i]?=some f) (a:Nat):holds (fs.take (i+1)) a=holds (fs.take i) a+occ f.held a:=by
 rw [q06 hf,q1e,q2j]
theorem qq7 {fs:List Frame} {i:Nat} {f:Frame} (hf:fs[i]?=some f) (a:Nat):owns (fs.take (i+1)) a=owns (fs.take i) a+q0m f.regs f.own a:=by
 rw [q06 hf,q1u,q3t]
theorem q98:∀ {regs own:List Int} {k:Nat} {w o:Int},regs[k]?=some w->own[k]?=some o->∀ a,q0m (regs.take (k+1)) (own.take (k+1)) a=q0m (regs.take k) (own.take k) a+(if w=1000+(a:Int) then o else 0)
 | [],_,_,_,_,h,_,_=>by simp at h
 | _ :: _,[],_,_,_,_,h,_=>by simp at h
 | r :: rs,p :: ps,0,w,o,h1,h2,a=>by simp at h1 h2; subst h1; subst h2; simp [q0m]
 | r :: rs,p :: ps,k+1,w,o,h1,h2,a=>by
  have:=q98 (regs:=rs) (own:=ps) (k:=k) (by simpa using h1) (by simpa using h2) a
  simp only [List.take_succ_cons,q0m] at this ⊢
  omega
theorem qn8:∀ {fs:List Frame} {n:Nat},(∀ f ∈ fs,f.held.length<=n)->∀ a,holds fs a<=fs.length*n
 | [],n,_,a=>by simp [holds]
 | f :: fs,n,h,a=>by
  have h1:=qn8 (fs:=fs) fun g hg=>h g (by simp [hg])
  have h2:=h1 a
  have h3:=q3d f.held a
  have h4:=h f (by simp)
  simp only [holds,List.length_cons]
  have:((fs.length+1:Nat):Int)*n=fs.length*n+n:=by push_cast; rw [Int.add_mul]; omega
  omega
theorem qg6:∀ {regs own:List Int} {n:Int},0<=n->(∀ o ∈ own,0<=o/\o<=n)->∀ a,0<=q0m regs own a/\q0m regs own a<=own.length*n
 | [],own,n,hn,h,a=>by simp [q0m]; exact Int.mul_nonneg (by omega) hn
 | _ :: _,[],n,hn,h,a=>by simp [q0m]
 | r :: rs,o :: os,n,hn,h,a=>by
  have h1:=qg6 (regs:=rs) (own:=os) hn (fun x hx=>h x (by simp [hx])) a
  have h2:=h o (by simp)
  have:((os.length+1:Nat):Int)*n=os.length*n+n:=by push_cast; rw [Int.add_mul]; omega
  simp only [q0m,List.length_cons]
  split <;> omega
theorem qkj:∀ {fs:List Frame} {n:Nat} {k:Int},0<=k->(∀ f ∈ fs,f.own.length<=n/\∀ o ∈ f.own,0<=o/\o<=k)->∀ a,0<=owns fs a/\owns fs a<=fs.length*(n*k)
 | [],n,k,_,_,a=>by simp [owns]
 | f :: fs,n,k,hk,h,a=>by
  have h1:=qkj (fs:=fs) hk (fun g hg=>h g (by simp [hg])) a
  obtain ⟨q1,q2⟩:=h f (by simp)
  have h2:=qg6 (regs:=f.regs) hk q2 a
  have h3:(f.own.length:Int)*k<=n*k:=Int.mul_le_mul_of_nonneg_right (by omega) hk
  have:((fs.length+1:Nat):Int)*(n*k)=fs.length*(n*k)+n*k:=by push_cast; rw [Int.add_mul]; omega
  simp only [owns,List.length_cons]
  omega
section
variable {m:Mem} {d p out hp fr:Sl} {im:Image} {s:St}
theorem qmt (hs:StR m out hp fr s) (hfit:FitS s) (hd:s.frames.length<=41):q0o Tryz.prog q9e [stV s out hp fr] m (HeldOk s.heap s.frames):=by
 apply qhi
 simp -zeta only [q0a,q09,rI,rS,rB,cI,cB,cS,dI,dB,dS,gk,rg]
 intro m1
 have x1:Ext m m1:=(Ext.refl m).pushed _
 have s1:m1.size=m.size+1:=by simp [m1]
 clear_value m1
 have hl:=hs.heap.len
 have hll:=hfit.lh
 have hfl:=hs.frames.len
 have en:Int.toNat (hp.len:Int)=s.heap.length:=by omega
 rw [en]
 refine ⟨by omega,by omega,by omega,by omega,?_⟩
 intro m2
 have x2:Ext m1 m2:=(Ext.refl m1).pushed _
 have B2:Blk m2 m1.size ty_int ((tab s.heap.length (fun _=>0)).map Ce.i):=tabNew m1 _
 clear_value m2
 have hb:∀ {M M':Mem},Ext m1 M->Ext M M'->Sam [m.size] M M':=fun h1 h2=>h2.sam fun b hb=>h1.lt (by simp at hb; omega)
 have hlen:=fun f hf=>(hfit.lr f hf).2.2
 refine forI (n:=s.frames.length) (by omega) (fun i m'=>Ext m1 m'/\Blk m' m1.size ty_int ((tab s.heap.length (fun a=>holds (s.frames.take i) a)).map Ce.i)/\∀ f ∈ s.frames.take i,∀ w ∈ f.held,w=0 \/ (1000<=w/\ix w < s.heap.length)) ⟨x2,by simpa [holds] using B2,by simp⟩ ?_
 rintro i m3 I μ hi ⟨x3,B3,hq⟩ next
 refine ⟨fun h1=>?_,fun h1=>?_⟩
 ·simp only [decide_eq_true_eq] at h1
  obtain ⟨f,hf⟩:=q00 (l:=s.frames) (k:=i) (by omega)
  have hfm:=q05 hf
  have hhl:=hlen f hfm
  have hno:(∃ w ∈ f.held,¬ (w=0 \/ (1000<=w/\ix w < s.heap.length)))->¬ HeldOk s.heap s.frames:=fun ⟨w,hw,hn⟩ hk=>hn (hk.words f hfm w hw)
  refine forI (n:=f.held.length) (by omega) (fun k m'=>Ext m1 m'/\Blk m' m1.size ty_int ((tab s.heap.length (fun a=>holds (s.frames.take i) a+occ (f.held.take k) a)).map Ce.i)/\∀ w ∈ f.held.take k,w=0 \/ (1000<=w/\ix w < s.heap.length)) ⟨x3,by simpa [occ] using B3,by simp⟩ ?_
  rintro k m4 J ν hk ⟨x4,B4,hq4⟩ next4
  obtain ⟨r,o,e,_,_,he,_,_,_,_,_,g5⟩:=(hs.ext (x1.trans x4)).frames.at' hf
  have hel:=he.len
  refine ⟨by omega,by omega,e,by simpa using g5,fun h2=>?_,fun h2=>?_⟩
  ·simp only [decide_eq_true_eq] at h2
   obtain ⟨w,hw⟩:=q00 (l:=f.held) (k:=k) (by omega)
   have hwm:=q05 hw
   have h64:=(hfit.frames f hfm).2.2 w hwm
   refine ⟨by omega,by omega,e,by simpa using g5,by omega,by omega,w,by simpa using he.at' hw,fun h3=>?_,fun h3=>?_⟩
   ·have hw0:w ≠ 0:=by simpa using h3
    refine (q1b _ _).mono ?_
    rintro _ m5 ⟨b5,rfl,hb5,x5⟩
    have x15:=x4.trans x5
    refine ⟨hb x4 x5,b5,rfl,fun h4=>retF (hno ⟨w,hwm,fun hn=>?_⟩) (x1.trans x15),fun h4=>?_⟩
    ·rcases hn with hn | hn
     ·exact hw0 hn
     ·exact nb hb5 h4 hn.1
    have hp1:=yb hb5 h4
    have h642:=h64.2
    have e1:w64 (w - 1000)=(ix w:Nat):=by unfold ix; rw [q07 (by omega) (by omega)]; omega
    have e2:Int.toNat ((ix w:Nat):Int)=ix w:=by omega
    rw [e1,e2,show w64 ((hp.len:Int) - 1)=(hp.len:Int) - 1 from q07 (by omega) (by omega)]
    refine (q0e _ _ _ _).mono ?_
    rintro _ m6 ⟨b6,rfl,hb6,x6⟩
    have x16:=x15.trans x6
    refine ⟨hb x15 x6,b6,rfl,fun h5=>retF (hno ⟨w,hwm,fun hn=>?_⟩) (x1.trans x16),fun h5=>?_⟩
    ·rcases hn with hn | hn
     ·exact hw0 hn
     ·exact nb hb6 h5 ⟨by omega,by omega⟩
    have hp2:=yb hb6 h5
    have hlt:ix w < s.heap.length:=by omega
    have B6:=B4.ext (x5.trans x6)
    simp only [Sl.len_mk,Sl.blk_mk,Sl.off_mk,Nat.zero_add,Nat.mul_one]
    have q1:=qn8 (fs:=s.frames.take i) (n:=10000000) (fun g hg=>hlen g (List.mem_of_mem_take hg)) (ix w)
    have q2:=q3d (f.held.take k) (ix w)
    have q3:=qai (s.frames.take i) (ix w)
    have q4:=occ_nn (f.held.take k) (ix w)
    have q5:(s.frames.take i).length<=41:=by simp; omega
    have q6:(f.held.take k).length<=10000000:=by simp; omega
    refine ⟨by omega,by omega,_,tabGet B6 hlt,by omega,by omega,tabWr B6 hlt,?_⟩
    rw [show w64 (holds (s.frames.take i) (ix w)+occ (f.held.take k) (ix w)+1)=holds (s.frames.take i) (ix w)+occ (f.held.take k) (ix w)+1 from q07 (by omega) (by omega)]
    have B7:=tabSet B6 (ix w) (holds (s.frames.take i) (ix w)+occ (f.held.take k) (ix w)+1)
    rw [q1i (g:=fun a=>holds (s.frames.take i) a+occ (f.held.take (k+1)) a)] at B7
    ·refine ⟨fun b hb=>q0n _ _ _ _ (by simp at hb; omega),next4 (by omega) _ ⟨x16.scells (Nat.le_refl _) _ _,B7,q0f hw hq4 (Or.inr ⟨hp1,hlt⟩)⟩⟩
    ·intro b hb
     rw [q6q hw]
     by_cases e:b=ix w
     ·subst e; rw [if_pos rfl,if_pos (ptr_ix hp1).symm]; omega
     ·rw [if_neg e,if_neg (fun hw2=>e (by rw [hw2,ix_ptr]))]; omega
   ·have hw0:w=0:=by simpa using h3
    refine next4 (by omega) m4 ⟨x4,?_,q0f hw hq4 (Or.inl hw0)⟩
    rw [q1i (g:=fun a=>holds (s.frames.take i) a+occ (f.held.take k) a)]
    ·exact B4
    ·intro b hb; rw [q6q hw,if_neg (by omega)]; omega
  ·simp only [decide_eq_false_iff_not] at h2
   have ee:f.held.take k=f.held:=q0b (by omega)
   rw [ee] at B4 hq4
   refine next (by omega) m4 ⟨x4,?_,q0f hf hq hq4⟩
   rw [q1i (g:=fun a=>holds (s.frames.take i) a+occ f.held a)]
   ·exact B4
   ·intro b hb; exact qnt hf b
 ·simp only [decide_eq_false_iff_not] at h1
  have ee:s.frames.take i=s.frames:=q0b (by omega)
  rw [ee] at B3 hq
  simp only [Sl.len_mk,Sl.blk_mk,Sl.off_mk,Nat.zero_add,Nat.mul_one]
  refine forI (n:=s.heap.length) (by omega) (fun k m'=>m'=m3/\∀ (a:Nat) (c:Cell),a < k->s.heap[a]?=some c->(c.count < 0->holds s.frames a=1)/\(0<=c.count->holds s.frames a=0)) ⟨rfl,fun a c ha=>absurd ha (Nat.not_lt_zero _)⟩ ?_
  rintro k m4 J ν hk ⟨rfl,hq4⟩ next4
  refine ⟨fun h2=>?_,fun h2=>?_⟩
  ·have hkl:k < s.heap.length:=by first | omega | (simp at h2; omega)
   obtain ⟨c,hc⟩:=q00 hkl
   obtain ⟨f,_,g1,_,_⟩:=(hs.ext (x1.trans x3)).heap.at' hc
   have ek:Int.toNat (k:Int)=k:=by omega
   rw [ek]
   have gh:=tabGet B3 hkl
   have more:(c.count < 0->holds s.frames k=1)/\(0<=c.count->holds s.frames k=0)->∀ (a:Nat) (c:Cell),a < k+1->s.heap[a]?=some c->(c.count < 0->holds s.frames a=1)/\(0<=c.count->holds s.frames a=0):=fun hn a d ha hd=>by
    rcases Nat.lt_or_ge a k with h6 | h6
    ·exact hq4 a d h6 hd
    ·have:a=k:=by omega
     subst this
     rw [hc] at hd; simp at hd; subst hd; exact hn
   have last:(c.count < 0->holds s.frames k=1)->(0:Int)<=(k:Int)/\(k:Int) < (hp.len:Int)/\∃ v90:Int,gcell m4 hp.blk (hp.off+k*3)=some (vi v90) /\
     ((decide (v90 ≥ (0:Int)))=true->(0:Int)<=(k:Int)/\(k:Int) < (s.heap.length:Int)/\∃ v96:Int,gcell m4 m1.size k=some (vi v96) /\
     ((v96 != (0:Int))=true->∃ b':Bool,vb false=.bool b'/\(b'=true ↔ HeldOk s.heap s.frames)/\Ext m m4)/\((v96 != (0:Int))=false->J (w64 ((k:Int)+1)) m4/\ν (w64 ((k:Int)+1)) m4 < ν k m4)) /\
     ((decide (v90 ≥ (0:Int)))=false->J (w64 ((k:Int)+1)) m4/\ν (w64 ((k:Int)+1)) m4 < ν k m4):=fun hn=>by
    refine ⟨by omega,by omega,_,g1,fun h3=>⟨by omega,by omega,_,gh,fun h4=>retF (fun hk=>?_) (x1.trans x3),fun h4=>next4 (by omega) _ ⟨rfl,more ⟨hn,fun _=>by simpa using h4⟩⟩⟩,fun h3=>next4 (by omega) _ ⟨rfl,more ⟨hn,fun h5=>by simp at h3; omega⟩⟩⟩
    have:=hk.unkept k c hc (by simpa using h3)
    simp at h4; exact h4 this
   refine ⟨by omega,by omega,_,g1,fun h3=>⟨by omega,by omega,_,gh,fun h4=>retF (fun hk=>?_) (x1.trans x3),fun h4=>last fun _=>by simpa using h4⟩,fun h3=>last fun h5=>by simp at h3; omega⟩
   have:=hk.kept k c hc (by simpa using h3)
   simp at h4; exact h4 this
  ·have hge:s.heap.length<=k:=by first | omega | (simp at h2; omega)
   exact retT ⟨hq,fun a c hc hn=>(hq4 a c (by have:=q04 hc; omega) hc).1 hn,fun a c hc hn=>(hq4 a c (by have:=q04 hc; omega) hc).2 hn⟩ (x1.trans x3)
end
end
end Go.Proofs.YtpggcodlaajceaaGreat
