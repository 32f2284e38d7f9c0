/- Part of a proof, joined by a program: La3 La4. -/
import Derived.Test.YtpggcodlaajceaaGreatU10
set_option linter.unusedVariables false
set_option linter.unusedSimpArgs false
namespace Go.Proofs.YtpggcodlaajceaaGreat
open Go.Vc
section
/-! Con -/
def q8w:Row:=.sl (.int .nil) (.nil)
def Sm_Con (x:List Int):Prop:=(x).length<=1048576
def qf5 (l:List (List Int)):Prop:=l.length<=1048576/\∀ x ∈ l,Sm_Con x
def q28 (m0 m:Mem) (cs:List Ce) (x:List Int):Prop:=∃ q0:Sl,cs=[.s q0]/\CpI m0 m q0 (x)
abbrev qay (m0 m:Mem) (s:Sl) (l:List (List Int)):Prop:=CpS qex 1 (q28 m0 m) m0 m s l
theorem q28.mono {m0 m m1 m':Mem} (hk:Kp m0.size m m') (hb:m1.size<=m0.size) {cs:List Ce} {x:List Int}:q28 m0 m cs x->q28 m1 m' cs x:=by
 rintro ⟨q0,rfl,h0⟩
 exact ⟨q0,rfl,(h0.keep hk).base hb⟩
theorem q28.read {m0 m:Mem} {cs:List Ce} {x:List Int} (h:q28 m0 m cs x) (hs:Sm_Con x):ConR m cs x:=by
 obtain ⟨q0,rfl,h0⟩:=h
 exact ⟨q0,rfl,q03.ofOwn h0 (by have:(x).length<=1048576:=hs; omega)⟩
theorem qay.read {m0 m:Mem} {s:Sl} {l:List (List Int)} (h:qay m0 m s l) (hs:qf5 l):ConSl m s l:=CpS.read (sz:=0) h (fun cs x hx hr=>q28.read hr (hs.2 x hx)) hs.1
theorem q28.walk {m0 m:Mem} {cs:List Ce} {x:List Int} (h:q28 m0 m cs x) (hs:Sm_Con x) (b o:Nat) (hr:rowIs m b o cs) (hf:∀ i,i < cs.length->Vc.froz m b (o+i)=false) (hb:m0.size<=b):∃ pos,Walk m (.row q8w) b o pos/\(∀ p ∈ pos,m0.size<=p.1)/\pos.length<=1048576:=by
 obtain ⟨q0,rfl,h0⟩:=h
 obtain ⟨p0,w0,b0,l0⟩:=CpI.walk h0 hs
 have v0:q0.len<=9223372036854775807:=by have:=CpI.slen h0; have:(x).length<=1048576:=hs; omega
 refine ⟨p0 ++ ([]),.sl (s:=q0) (hr 0 (.s q0) rfl) v0 w0 (.nil _ _),fun p hp=>?_,?_⟩
 ·simp only [List.mem_append,List.mem_cons,List.not_mem_nil,or_false] at hp
  exact b0 p hp
 ·simp only [List.length_append,List.length_cons,List.length_nil]; omega
theorem qay.walk {m0 m:Mem} {s:Sl} {l:List (List Int)} (h:qay m0 m s l) (hs:qf5 l):∃ pos,Walk m (.rows q8w s.len) s.blk s.off pos/\(∀ p ∈ pos,m0.size<=p.1)/\pos.length<=1099511627776:=by
 obtain ⟨pos,h1,h2,h3⟩:=CpS.walk (sz:=0) (r:=q8w) h rfl (fun cs x hx hr=>q28.walk hr (hs.2 x hx))
 exact ⟨pos,h1,h2,Nat.le_trans h3 (Nat.le_trans (Nat.mul_le_mul_right 1048576 hs.1) (by decide))⟩
theorem qqi {m:Mem} {x:List Int} {q0:Sl} (h0:q03 m q0 (x)) {left:Int} (z0:Lft left):q08 Tryz.prog qcy [.agg #[Sl.v q0],vi left] m (SzR left (Sm_Con x) m):=by
 apply qnc
 simp -zeta only [q0a,q09,rI,rS,rB,cI,cB,cS,dI,dB,dS,gk,rg]
 intro m1
 have e0:Ext m m1:=(Ext.refl m).pushed _
 have s1:m1.size=m.size+1:=by simp [m1]
 clear_value m1
 obtain ⟨z1,z2⟩:=z0
 refine (q2i (h0.ext e0) (left:=left) ⟨by omega,by omega⟩).mono ?_
 rintro _ m2 ⟨n1,rfl,le1,sm1,x1⟩
 have e1:Ext m m2:=e0.trans x1
 refine ⟨x1.sam (by simp; omega),n1,rfl,fun h=>⟨-1,rfl,by omega,fun h=>by omega,e1⟩,fun h=>?_⟩
 simp only [decide_eq_false_iff_not] at h
 have y1:m.size+1<=m2.size:=by have:=x1.size; omega
 exact ⟨_,rfl,by omega,fun _=>sm1 (by omega),e1⟩
theorem qp5 {m:Mem} {s:Sl} {l:List (List Int)} (h:ConSl m s l) {left:Int} (z0:Lft left):q08 Tryz.prog qc6 [Sl.v s,vi left] m (SzR left (qf5 l) m):=by
 apply qkm
 have h1:=h.len
 have h2:=h.lim
 obtain ⟨h3,h4⟩:=z0
 have e:w64 (left - (s.len:Int))=left - s.len:=q07 (by omega) (by omega)
 rw [e]
 refine ⟨fun _=>⟨-1,rfl,by omega,fun h=>by omega,Ext.refl _⟩,fun h5=>?_⟩
 simp only [decide_eq_false_iff_not] at h5
 refine forSI (σ:=Int) (n:=l.length) (by omega) (fun k n m'=>0<=n/\n<=left/\Ext m m'/\∀ x ∈ l.take k,Sm_Con x) ⟨by omega,by omega,Ext.refl _,by simp⟩ ?_
 rintro k n m1 I μ hk ⟨hn,hn2,hx,hs⟩ next
 refine ⟨fun h6=>?_,fun h6=>?_⟩
 ·simp only [decide_eq_true_eq] at h6
  obtain ⟨y,hy⟩:=q00 (l:=l) (k:=k) (by omega)
  obtain ⟨q0,h0,g0⟩:=(ConSl.ext hx h).at' hy
  refine ⟨by omega,by omega,_,g0,(qqi h0 ⟨hn,by omega⟩).mono ?_⟩
  rintro _ m2 ⟨n2,rfl,le2,sm2,hx2⟩
  refine ⟨n2,rfl,fun h=>⟨-1,rfl,by omega,fun h=>by omega,hx.trans hx2⟩,fun h7=>?_⟩
  simp only [decide_eq_false_iff_not] at h7
  refine next (by omega) _ _ ⟨by omega,by omega,hx.trans hx2,fun x hxm=>?_⟩
  rw [q06 hy] at hxm
  rcases List.mem_append.1 hxm with h8 | h8
  ·exact hs x h8
  ·simp at h8; subst h8; exact sm2 (by omega)
 ·simp only [decide_eq_false_iff_not] at h6
  rw [q0b (by omega)] at hs
  exact ⟨n,rfl,hn2,fun _=>⟨by omega,hs⟩,hx⟩
theorem qqo {m:Mem} {x:List Int} {q0:Sl} (h0:q03 m q0 (x)) (hs:Sm_Con x):q08 Tryz.prog qd3 [.agg #[Sl.v q0]] m fun v m'=>∃ r0:Sl,v=.agg #[Sl.v r0]/\q28 m m' [.s r0] x/\Ext m m':=by
 apply qmf
 simp -zeta only [q0a,q09,rI,rS,rB,cI,cB,cS,dI,dB,dS,gk,rg]
 intro m1 m2 m3
 have s1:m1.size=m.size+1:=by simp [m1]
 have s2:m2.size=m.size+2:=by simp [m2,s1]
 have s3:m3.size=m.size+3:=by simp [m3,s2]
 have x3:Ext m m3:=(((Ext.refl m).pushed _).pushed _).pushed _
 have y3:m3.size<=m3.size:=Nat.le_refl _
 clear_value m3
 refine (q2g (h0.ext x3) hs).mono ?_
 rintro _ m4 ⟨r0,rfl,c0,u4⟩
 have x4:Ext m m4:=x3.trans u4
 have y4:m3.size<=m4.size:=by have:=u4.size; omega
 have kp4:Kp m3.size m3 m4:=Kp.ext u4
 replace c0:=Own.base (m0:=m3) c0 y3
 refine ⟨u4.sam (by simp; omega),r0,rfl,?_⟩
 intro m5
 have x5:Ext m m5:=x4.scells (by omega) _ _
 have y5:m3.size<=m5.size:=Nat.le_trans y4 (Nat.le_of_eq (q02 _ _ _ _).symm)
 have kp5:Kp m3.size m4 m5:=Kp.box (by omega) _ _
 clear_value m5
 replace c0:=c0.keep (kp5)
 intro m6
 have x6:Ext m m6:=x5.scells (by omega) _ _
 have kp6:Kp m3.size m5 m6:=Kp.box (by omega) _ _
 clear_value m6
 replace c0:=c0.keep (kp6)
 have hR:q28 m3 m6 [.s r0] x:=⟨r0,rfl,c0⟩
 exact ⟨r0,rfl,q28.mono (Kp.ext (Ext.refl _)) (by omega) hR,x6⟩
theorem qpp {m:Mem} {s:Sl} {l:List (List Int)} (h:ConSl m s l) (hs:qf5 l):q08 Tryz.prog qc5 [Sl.v s] m fun v m'=>∃ s',v=Sl.v s'/\qay m m' s' l/\Ext m m':=by
 apply qlr
 have hsl:=h.len
 have hl:=hs.1
 have e0:Int.toNat (s.len:Int)=l.length:=by omega
 rw [e0]
 refine ⟨by omega,Int.le_refl _,by omega,by omega,?_⟩
 intro m1
 have x1:Ext m m1:=(Ext.refl m).pushed _
 have s1:m1.size=m.size+1:=by simp [m1]
 have k1:Blk m1 m.size qex (zrow [.s Sl.nil] l.length):=Blk.push m _ _
 clear_value m1
 simp -zeta only [Sl.blk_mk,Sl.off_mk,Sl.len_mk,Nat.zero_add]
 refine forI (n:=l.length) (by omega) (fun k m'=>Ext m m'/\m1.size<=m'.size/\∃ css,Blk m' m.size qex (css.flatten ++ zrow [.s Sl.nil] (l.length - css.length))/\css.length=k/\RowsOf 1 (q28 m1 m') css (l.take k)) ⟨x1,Nat.le_refl _,[],by simpa using k1,rfl,by simpa using RowsOf.nil _ _⟩ ?_
 rintro k m2 I μ hk ⟨hx,hm2,css,kk,hck,hrow⟩ next
 refine ⟨fun h6=>?_,fun h6=>?_⟩
 ·simp only [decide_eq_true_eq] at h6
  obtain ⟨y,hy⟩:=q00 (l:=l) (k:=k) (by omega)
  obtain ⟨q0,h0,g0⟩:=(ConSl.ext hx h).at' hy
  refine ⟨by omega,by omega,_,g0,(qqo h0 (hs.2 y (q05 hy))).mono ?_⟩
  rintro _ m3 ⟨r0,rfl,hc,x3⟩
  have ek:Int.toNat (k:Int)=k:=by omega
  have hm3:=x3.size
  refine ⟨_,rfl,by omega,by omega,?_⟩
  rw [ek]
  have hfl:css.flatten.length=k*1:=by rw [q0g hrow.size,hck]
  refine ⟨(kk.ext x3).wrOk (by rw [List.length_append,hfl,qad,hck]; simp only [List.length_cons,List.length_nil]; omega),next (by omega) _ ⟨(hx.trans x3).scells (Nat.le_refl _) _ _,by rw [q02]; omega,css ++ [[.s r0]],?_,by simp [hck],?_⟩⟩
  ·have:=Blk.scells (m:=m3) (o:=k*1) (r:=[.s r0]) (kk.ext x3)
   have e1:=fillRow (css:=css) (zs:=[.s Sl.nil]) (cs:=[.s r0]) (n:=l.length) hrow.size rfl (by omega)
   simp only [List.length_cons,List.length_nil,Nat.zero_add,hck] at e1
   rw [hck] at this
   rw [e1] at this
   simpa [hck] using this
  ·rw [q06 hy]
   have kp:Kp m1.size m2 (scells m3 m.size (k*1) [.s r0]):=fun b hb1 hb2=>by rw [q0n _ _ _ _ (by omega),x3.same b hb2]
   refine RowsOf.snoc ⟨hrow.len,hrow.size,fun j cs x hj hx=>q28.mono kp (Nat.le_refl _) (hrow.each j cs x hj hx)⟩ rfl (q28.mono (m0:=m2) (m1:=m1) (m:=m3) (Kp.box (by omega) _ _) (by omega) hc)
 ·simp only [decide_eq_false_iff_not] at h6
  have:k=l.length:=by omega
  subst this
  rw [q0b (Nat.le_refl _)] at hrow
  have e2:l.length - css.length=0:=by omega
  rw [e2] at kk
  simp only [zrow,List.replicate_zero,List.flatten_nil,List.append_nil] at kk
  exact ⟨_,rfl,⟨css,⟨by simp only [Sl.len_mk]; rw [q0g hrow.size,hck],Or.inr ⟨m.size,l.length,[],rfl,Nat.le_refl _,by rw [List.append_nil]; exact kk,by rw [List.append_nil,q0g hrow.size,hck],Nat.le_refl _⟩⟩,hrow.len,hrow.size,fun j cs x hj hx=>q28.mono (Kp.ext (Ext.refl _)) (by omega) (hrow.each j cs x hj hx)⟩,hx⟩
theorem qqr {m:Mem} {x y:List Int} {q0 r0:Sl} (h0:q03 m q0 (x)) (k0:q03 m r0 (y)):q0o Tryz.prog qcu [.agg #[Sl.v q0],.agg #[Sl.v r0]] m (x=y):=by
 apply qne
 simp -zeta only [q0a,q09,rI,rS,rB,cI,cB,cS,dI,dB,dS,gk,rg]
 intro m1 m2
 have x2:Ext m m2:=((Ext.refl m).pushed _).pushed _
 have s1:m1.size=m.size+1:=by simp [m1]
 have s2:m2.size=m.size+2:=by simp [m2,s1]
 have y2:m.size+2<=m2.size:=by omega
 clear_value m2
 refine (q2h (h0.ext x2) (k0.ext x2)).mono ?_
 rintro _ m3 ⟨b0,rfl,hb0,u3⟩
 have x3:Ext m m3:=x2.trans u3
 have y3:m.size+2<=m3.size:=by have:=u3.size; omega
 refine ⟨u3.sam (by simp; omega),b0,rfl,fun h=>retF (fun e=>by subst e; exact nb hb0 h rfl) x3,fun h=>?_⟩
 have i0:=yb hb0 h
 clear h
 exact retT i0 x3
theorem qpf {m:Mem} {s t:Sl} {l r:List (List Int)} (hs:ConSl m s l) (ht:ConSl m t r):q0o Tryz.prog qbo [Sl.v s,Sl.v t] m (l=r):=by
 apply qkr
 have hsl:=hs.len
 have htl:=ht.len
 refine ⟨fun h=>retF (fun e=>?_) (Ext.refl _),fun h=>?_⟩
 ·subst e; simp at h; omega
 ·have hlen:l.length=r.length:=by simp at h; omega
  refine forI (n:=l.length) (hsl ▸ hs.lim) (fun k m'=>Ext m m'/\l.take k=r.take k) ⟨Ext.refl _,by simp⟩ ?_
  rintro k m1 I μ hk ⟨hx,he⟩ next
  refine ⟨fun h1=>?_,fun h1=>?_⟩
  ·simp only [decide_eq_true_eq] at h1
   obtain ⟨y,hy⟩:=q00 (l:=l) (k:=k) (by omega)
   obtain ⟨z,hz⟩:=q00 (l:=r) (k:=k) (by omega)
   obtain ⟨q0,h0,g0⟩:=(ConSl.ext hx hs).at' hy
   obtain ⟨r0,k0,f0⟩:=(ConSl.ext hx ht).at' hz
   refine ⟨by omega,by omega,_,g0,by omega,by omega,_,f0,(qqr h0 k0).mono ?_⟩
   rintro _ m2 ⟨b,rfl,hb,x2⟩
   refine ⟨b,rfl,fun h2=>retF (fun e=>nb hb h2 ?_) (hx.trans x2),fun h2=>next (by omega) _ ⟨hx.trans x2,?_⟩⟩
   ·subst e; rw [hy] at hz; simpa using hz
   ·rw [q06 hy,q06 hz,he,yb hb h2]
  ·simp only [decide_eq_false_iff_not] at h1
   rw [q0b (by omega),q0b (by omega)] at he
   exact retT he hx
theorem qnf {m:Mem} {s:Sl} {pos:List (Nat × Nat)} (h:Walk m (.rows q8w s.len) s.blk s.off pos) (hlim:s.len<=9223372036854775807) {k:Int} (hk:0<=k/\k+pos.length<=4611686018427387904):q08 Tryz.prog q9f [Sl.v s,vi k] m (MarkR k pos m):=by
 apply qhx
 obtain ⟨ps,hpl,rfl,hp⟩:=Walk.split h
 refine forSI (σ:=Int) (n:=s.len) hlim (fun j c m'=>c=k+(ps.take j).flatten.length/\MkR m k (ps.take j).flatten m') ⟨by simp,MkR.nil (Ext.refl _) _⟩ ?_
 rintro j c m1 I μ hj ⟨rfl,G⟩ next
 refine ⟨fun h1=>?_,fun h1=>?_⟩
 ·simp only [decide_eq_true_eq] at h1
  obtain ⟨pj,hpj⟩:=q00 (l:=ps) (k:=j) (by omega)
  have hlen:(ps.take j).flatten.length+pj.length<=ps.flatten.length:=by
   have e1:(ps.take (j+1)).flatten.length=(ps.take j).flatten.length+pj.length:=by rw [q06 hpj]; simp
   have e2:ps.flatten.length=(ps.take (j+1)).flatten.length+(ps.drop (j+1)).flatten.length:=by rw [← List.length_append,← List.flatten_append,List.take_append_drop]
   omega
  have hq:∀ p ∈ (ps.take j).flatten,∃ n,gcell m p.1 p.2=some (vi n):=fun p hp'=>h.ints p (by
   rw [← List.take_append_drop j ps,List.flatten_append]; exact List.mem_append_left _ hp')
  have W0:Walk m1 (.row q8w) s.blk (s.off+j*1) pj:=(hp j pj hpj).mark G hq
  have ej:Int.toNat (j:Int)=j:=by omega
  have hnext:(ps.take (j+1)).flatten=(ps.take j).flatten ++ pj:=by rw [q06 hpj]; simp
  generalize hacc:(ps.take j).flatten=acc at *
  refine ⟨by omega,by omega,?_⟩
  rw [ej]
  simp only [q8w] at W0
  obtain ⟨t0,p0,d0,g0,L0,V0,rfl,W1⟩:=Walk.inv_sl W0
  refine ⟨t0,g0,(q20 V0 (k:=k+((acc).length:Int)) (by simp only [List.length_append,List.length_cons,List.length_nil] at hlen ⊢; omega)).mono ?_⟩
  rintro _ m2 ⟨rfl,O0⟩
  have e0:k+((acc).length:Int)+(p0.length:Int)=k+((acc ++ p0).length:Int):=by simp only [List.length_append]; omega
  rw [e0]
  replace W1:=W1.mark O0 V0.ints
  replace G:=G.trans O0
  refine ⟨_,rfl,?_⟩
  have hz:=Walk.inv_nil W1
  subst hz
  refine next (by omega) _ _ ⟨?_,?_⟩
  ·rw [hnext]; simp
  ·rw [hnext]; simpa using G
 ·simp only [decide_eq_false_iff_not] at h1
  have:j=s.len:=by omega
  subst this
  rw [q0b (by omega)] at G
  exact ⟨by rw [q0b (by omega)],G⟩
/-! Decl -/
def q53:Row:=.int (.int (.sl q8w (.nil)))
def qcm (x:Decl):Prop:=qf5 x.cons
def qdj (l:List (Decl)):Prop:=l.length<=1048576/\∀ x ∈ l,qcm x
def q1r (m0 m:Mem) (cs:List Ce) (x:Decl):Prop:=∃ q2:Sl,cs=[.i x.frm,.i x.to,.s q2]/\qay m0 m q2 (x.cons)
abbrev q6j (m0 m:Mem) (s:Sl) (l:List (Decl)):Prop:=CpS qd2 3 (q1r m0 m) m0 m s l
theorem q1r.mono {m0 m m1 m':Mem} (hk:Kp m0.size m m') (hb:m1.size<=m0.size) {cs:List Ce} {x:Decl}:q1r m0 m cs x->q1r m1 m' cs x:=by
 rintro ⟨q2,rfl,h2⟩
 exact ⟨q2,rfl,CpS.mono h2 (fun _ _=>q28.mono hk hb) hk hb⟩
theorem q1r.read {m0 m:Mem} {cs:List Ce} {x:Decl} (h:q1r m0 m cs x) (hs:qcm x):DeclR m cs x:=by
 obtain ⟨q2,rfl,h2⟩:=h
 exact ⟨q2,rfl,qay.read h2 hs⟩
theorem q6j.read {m0 m:Mem} {s:Sl} {l:List (Decl)} (h:q6j m0 m s l) (hs:qdj l):q0q m s l:=CpS.read (sz:=2) h (fun cs x hx hr=>q1r.read hr (hs.2 x hx)) hs.1
theorem q1r.walk {m0 m:Mem} {cs:List Ce} {x:Decl} (h:q1r m0 m cs x) (hs:qcm x) (b o:Nat) (hr:rowIs m b o cs) (hf:∀ i,i < cs.length->Vc.froz m b (o+i)=false) (hb:m0.size<=b):∃ pos,Walk m (.row q53) b o pos/\(∀ p ∈ pos,m0.size<=p.1)/\pos.length<=1099511627778:=by
 obtain ⟨q2,rfl,h2⟩:=h
 have v2:q2.len<=9223372036854775807:=by have:=CpS.len (sz:=0) h2; have:=hs.1; omega
 obtain ⟨p2,w2,b2,l2⟩:=CpS.walk (sz:=0) (r:=q8w) h2 rfl (fun cs x hx hr=>q28.walk hr (hs.2 x hx))
 have g2:p2.length<=1048576*1048576:=Nat.le_trans l2 (Nat.mul_le_mul_right _ hs.1)
 refine ⟨(b,o+0) :: ((b,o+1) :: (p2 ++ ([]))),.int (hr 0 (.i x.frm) rfl) (hf 0 (by simp)) (.int (hr 1 (.i x.to) rfl) (hf 1 (by simp)) (.sl (s:=q2) (hr 2 (.s q2) rfl) v2 w2 (.nil _ _))),fun p hp=>?_,?_⟩
 ·simp only [List.mem_append,List.mem_cons,List.not_mem_nil,or_false] at hp
  rcases hp with rfl | rfl | hp
  ·exact hb
  ·exact hb
  ·exact b2 p hp
 ·simp only [List.length_append,List.length_cons,List.length_nil]; omega
theorem q6j.walk {m0 m:Mem} {s:Sl} {l:List (Decl)} (h:q6j m0 m s l) (hs:qdj l):∃ pos,Walk m (.rows q53 s.len) s.blk s.off pos/\(∀ p ∈ pos,m0.size<=p.1)/\pos.length<=1152921504608944128:=by
 obtain ⟨pos,h1,h2,h3⟩:=CpS.walk (sz:=2) (r:=q53) h rfl (fun cs x hx hr=>q1r.walk hr (hs.2 x hx))
 exact ⟨pos,h1,h2,Nat.le_trans h3 (Nat.le_trans (Nat.mul_le_mul_right 1099511627778 hs.1) (by decide))⟩
theorem qph {m:Mem} {x:Decl} {q2:Sl} (h2:ConSl m q2 (x.cons)) {left:Int} (z0:Lft left):q08 Tryz.prog qbv [.agg #[vi x.frm,vi x.to,Sl.v q2],vi left] m (SzR left (qcm x) m):=by
 apply qkz
 simp -zeta only [q0a,q09,rI,rS,rB,cI,cB,cS,dI,dB,dS,gk,rg]
 intro m1
 have e0:Ext m m1:=(Ext.refl m).pushed _
 have s1:m1.size=m.size+1:=by simp [m1]
 clear_value m1
 obtain ⟨z1,z2⟩:=z0
 refine (qp5 (ConSl.ext e0 h2) (left:=left) ⟨by omega,by omega⟩).mono ?_
 rintro _ m2 ⟨n1,rfl,le1,sm1,x1⟩
 have e1:Ext m m2:=e0.trans x1
 refine ⟨x1.sam (by simp; omega),n1,rfl,fun h=>⟨-1,rfl,by omega,fun h=>by omega,e1⟩,fun h=>?_⟩
 simp only [decide_eq_false_iff_not] at h
 have y1:m.size+1<=m2.size:=by have:=x1.size; omega
 exact ⟨_,rfl,by omega,fun _=>sm1 (by omega),e1⟩
theorem qog {m:Mem} {s:Sl} {l:List (Decl)} (h:q0q m s l) {left:Int} (z0:Lft left):q08 Tryz.prog qah [Sl.v s,vi left] m (SzR left (qdj l) m):=by
 apply qjo
 have h1:=h.len
 have h2:=h.lim
 obtain ⟨h3,h4⟩:=z0
 have e:w64 (left - (s.len:Int))=left - s.len:=q07 (by omega) (by omega)
 rw [e]
 refine ⟨fun _=>⟨-1,rfl,by omega,fun h=>by omega,Ext.refl _⟩,fun h5=>?_⟩
 simp only [decide_eq_false_iff_not] at h5
 refine forSI (σ:=Int) (n:=l.length) (by omega) (fun k n m'=>0<=n/\n<=left/\Ext m m'/\∀ x ∈ l.take k,qcm x) ⟨by omega,by omega,Ext.refl _,by simp⟩ ?_
 rintro k n m1 I μ hk ⟨hn,hn2,hx,hs⟩ next
 refine ⟨fun h6=>?_,fun h6=>?_⟩
 ·simp only [decide_eq_true_eq] at h6
  obtain ⟨y,hy⟩:=q00 (l:=l) (k:=k) (by omega)
  obtain ⟨q2,h2,g0,g1,g2⟩:=(q0q.ext hx h).at' hy
  refine ⟨by omega,by omega,_,g0,_,g1,_,g2,(qph h2 ⟨hn,by omega⟩).mono ?_⟩
  rintro _ m2 ⟨n2,rfl,le2,sm2,hx2⟩
  refine ⟨n2,rfl,fun h=>⟨-1,rfl,by omega,fun h=>by omega,hx.trans hx2⟩,fun h7=>?_⟩
  simp only [decide_eq_false_iff_not] at h7
  refine next (by omega) _ _ ⟨by omega,by omega,hx.trans hx2,fun x hxm=>?_⟩
  rw [q06 hy] at hxm
  rcases List.mem_append.1 hxm with h8 | h8
  ·exact hs x h8
  ·simp at h8; subst h8; exact sm2 (by omega)
 ·simp only [decide_eq_false_iff_not] at h6
  rw [q0b (by omega)] at hs
  exact ⟨n,rfl,hn2,fun _=>⟨by omega,hs⟩,hx⟩
theorem qpo {m:Mem} {x:Decl} {q2:Sl} (h2:ConSl m q2 (x.cons)) (hs:qcm x):q08 Tryz.prog qbw [.agg #[vi x.frm,vi x.to,Sl.v q2]] m fun v m'=>∃ r2:Sl,v=.agg #[vi x.frm,vi x.to,Sl.v r2]/\q1r m m' [.i x.frm,.i x.to,.s r2] x/\Ext m m':=by
 apply qlf
 simp -zeta only [q0a,q09,rI,rS,rB,cI,cB,cS,dI,dB,dS,gk,rg]
 intro m1 m2 m3
 have s1:m1.size=m.size+1:=by simp [m1]
 have s2:m2.size=m.size+2:=by simp [m2,s1]
 have s3:m3.size=m.size+3:=by simp [m3,s2]
 have x3:Ext m m3:=(((Ext.refl m).pushed _).pushed _).pushed _
 have y3:m3.size<=m3.size:=Nat.le_refl _
 clear_value m3
 intro m4
 have x4:Ext m m4:=x3.scells (by omega) _ _
 have y4:m3.size<=m4.size:=Nat.le_trans y3 (Nat.le_of_eq (q02 _ _ _ _).symm)
 have kp4:Kp m3.size m3 m4:=Kp.box (by omega) _ _
 clear_value m4
 intro m5
 have x5:Ext m m5:=x4.scells (by omega) _ _
 have y5:m3.size<=m5.size:=Nat.le_trans y4 (Nat.le_of_eq (q02 _ _ _ _).symm)
 have kp5:Kp m3.size m4 m5:=Kp.box (by omega) _ _
 clear_value m5
 refine (qpp (ConSl.ext x5 h2) hs).mono ?_
 rintro _ m6 ⟨r2,rfl,c2,u6⟩
 have x6:Ext m m6:=x5.trans u6
 have y6:m3.size<=m6.size:=by have:=u6.size; omega
 have kp6:Kp m3.size m5 m6:=Kp.ext u6
 replace c2:=CpS.mono (m1:=m3) c2 (fun _ _=>q28.mono (Kp.ext (Ext.refl _)) y5) (Kp.ext (Ext.refl _)) y5
 refine ⟨u6.sam (by simp; omega),r2,rfl,?_⟩
 intro m7
 have x7:Ext m m7:=x6.scells (by omega) _ _
 have y7:m3.size<=m7.size:=Nat.le_trans y6 (Nat.le_of_eq (q02 _ _ _ _).symm)
 have kp7:Kp m3.size m6 m7:=Kp.box (by omega) _ _
 clear_value m7
 replace c2:=CpS.mono (m1:=m3) c2 (fun _ _=>q28.mono (kp7) (Nat.le_refl _)) (kp7) (Nat.le_refl _)
 intro m8
 have x8:Ext m m8:=x7.scells (by omega) _ _
 have kp8:Kp m3.size m7 m8:=Kp.box (by omega) _ _
 clear_value m8
 replace c2:=CpS.mono (m1:=m3) c2 (fun _ _=>q28.mono (kp8) (Nat.le_refl _)) (kp8) (Nat.le_refl _)
 have hR:q1r m3 m8 [.i x.frm,.i x.to,.s r2] x:=⟨r2,rfl,c2⟩
 exact ⟨r2,rfl,q1r.mono (Kp.ext (Ext.refl _)) (by omega) hR,x8⟩
theorem qoa {m:Mem} {s:Sl} {l:List (Decl)} (h:q0q m s l) (hs:qdj l):q08 Tryz.prog qan [Sl.v s] m fun v m'=>∃ s',v=Sl.v s'/\q6j m m' s' l/\Ext m m':=by
 apply qjx
 have hsl:=h.len
 have hl:=hs.1
 have e0:Int.toNat (s.len:Int)=l.length:=by omega
 rw [e0]
 refine ⟨by omega,Int.le_refl _,by omega,by omega,?_⟩
 intro m1
 have x1:Ext m m1:=(Ext.refl m).pushed _
 have s1:m1.size=m.size+1:=by simp [m1]
 have k1:Blk m1 m.size qd2 (zrow [.i (0:Int),.i (0:Int),.s Sl.nil] l.length):=Blk.push m _ _
 clear_value m1
 simp -zeta only [Sl.blk_mk,Sl.off_mk,Sl.len_mk,Nat.zero_add]
 refine forI (n:=l.length) (by omega) (fun k m'=>Ext m m'/\m1.size<=m'.size/\∃ css,Blk m' m.size qd2 (css.flatten ++ zrow [.i (0:Int),.i (0:Int),.s Sl.nil] (l.length - css.length))/\css.length=k/\RowsOf 3 (q1r m1 m') css (l.take k)) ⟨x1,Nat.le_refl _,[],by simpa using k1,rfl,by simpa using RowsOf.nil _ _⟩ ?_
 rintro k m2 I μ hk ⟨hx,hm2,css,kk,hck,hrow⟩ next
 refine ⟨fun h6=>?_,fun h6=>?_⟩
 ·simp only [decide_eq_true_eq] at h6
  obtain ⟨y,hy⟩:=q00 (l:=l) (k:=k) (by omega)
  obtain ⟨q2,h2,g0,g1,g2⟩:=(q0q.ext hx h).at' hy
  refine ⟨by omega,by omega,_,g0,_,g1,_,g2,(qpo h2 (hs.2 y (q05 hy))).mono ?_⟩
  rintro _ m3 ⟨r2,rfl,hc,x3⟩
  have ek:Int.toNat (k:Int)=k:=by omega
  have hm3:=x3.size
  refine ⟨_,_,_,rfl,by omega,by omega,?_⟩
  rw [ek]
  have hfl:css.flatten.length=k*3:=by rw [q0g hrow.size,hck]
  refine ⟨(kk.ext x3).wrOk (by rw [List.length_append,hfl,qad,hck]; simp only [List.length_cons,List.length_nil]; omega),next (by omega) _ ⟨(hx.trans x3).scells (Nat.le_refl _) _ _,by rw [q02]; omega,css ++ [[.i y.frm,.i y.to,.s r2]],?_,by simp [hck],?_⟩⟩
  ·have:=Blk.scells (m:=m3) (o:=k*3) (r:=[.i y.frm,.i y.to,.s r2]) (kk.ext x3)
   have e1:=fillRow (css:=css) (zs:=[.i (0:Int),.i (0:Int),.s Sl.nil]) (cs:=[.i y.frm,.i y.to,.s r2]) (n:=l.length) hrow.size rfl (by omega)
   simp only [List.length_cons,List.length_nil,Nat.zero_add,hck] at e1
   rw [hck] at this
   rw [e1] at this
   simpa [hck] using this
  ·rw [q06 hy]
   have kp:Kp m1.size m2 (scells m3 m.size (k*3) [.i y.frm,.i y.to,.s r2]):=fun b hb1 hb2=>by rw [q0n _ _ _ _ (by omega),x3.same b hb2]
   refine RowsOf.snoc ⟨hrow.len,hrow.size,fun j cs x hj hx=>q1r.mono kp (Nat.le_refl _) (hrow.each j cs x hj hx)⟩ rfl (q1r.mono (m0:=m2) (m1:=m1) (m:=m3) (Kp.box (by omega) _ _) (by omega) hc)
 ·simp only [decide_eq_false_iff_not] at h6
  have:k=l.length:=by omega
  subst this
  rw [q0b (Nat.le_refl _)] at hrow
  have e2:l.length - css.length=0:=by omega
  rw [e2] at kk
  simp only [zrow,List.replicate_zero,List.flatten_nil,List.append_nil] at kk
  exact ⟨_,rfl,⟨css,⟨by simp only [Sl.len_mk]; rw [q0g hrow.size,hck],Or.inr ⟨m.size,l.length,[],rfl,Nat.le_refl _,by rw [List.append_nil]; exact kk,by rw [List.append_nil,q0g hrow.size,hck],Nat.le_refl _⟩⟩,hrow.len,hrow.size,fun j cs x hj hx=>q1r.mono (Kp.ext (Ext.refl _)) (by omega) (hrow.each j cs x hj hx)⟩,hx⟩
theorem qpk {m:Mem} {x y:Decl} {q2 r2:Sl} (h2:ConSl m q2 (x.cons)) (k2:ConSl m r2 (y.cons)):q0o Tryz.prog qby [.agg #[vi x.frm,vi x.to,Sl.v q2],.agg #[vi y.frm,vi y.to,Sl.v r2]] m (x=y):=by
 apply qlm
 simp -zeta only [q0a,q09,rI,rS,rB,cI,cB,cS,dI,dB,dS,gk,rg]
 intro m1 m2
 have x2:Ext m m2:=((Ext.refl m).pushed _).pushed _
 have s1:m1.size=m.size+1:=by simp [m1]
 have s2:m2.size=m.size+2:=by simp [m2,s1]
 have y2:m.size+2<=m2.size:=by omega
 clear_value m2
 refine ⟨fun h=>retF (fun e=>by subst e; simp at h) x2,fun i0=>?_⟩
 simp only [bne_eq_false_iff_eq] at i0
 refine ⟨fun h=>retF (fun e=>by subst e; simp at h) x2,fun i1=>?_⟩
 simp only [bne_eq_false_iff_eq] at i1
 refine (qpf (ConSl.ext x2 h2) (ConSl.ext x2 k2)).mono ?_
 rintro _ m3 ⟨b2,rfl,hb2,u3⟩
 have x3:Ext m m3:=x2.trans u3
 have y3:m.size+2<=m3.size:=by have:=u3.size; omega
 refine ⟨u3.sam (by simp; omega),b2,rfl,fun h=>retF (fun e=>by subst e; exact nb hb2 h rfl) x3,fun h=>?_⟩
 have i2:=yb hb2 h
 clear h
 refine retT ?_ x3
 cases x; cases y; simp only [] at i0 i1 i2
 simp only [i0,i1,i2]
theorem qo0 {m:Mem} {s t:Sl} {l r:List (Decl)} (hs:q0q m s l) (ht:q0q m t r):q0o Tryz.prog qag [Sl.v s,Sl.v t] m (l=r):=by
 apply qj0
 have hsl:=hs.len
 have htl:=ht.len
 refine ⟨fun h=>retF (fun e=>?_) (Ext.refl _),fun h=>?_⟩
 ·subst e; simp at h; omega
 ·have hlen:l.length=r.length:=by simp at h; omega
  refine forI (n:=l.length) (hsl ▸ hs.lim) (fun k m'=>Ext m m'/\l.take k=r.take k) ⟨Ext.refl _,by simp⟩ ?_
  rintro k m1 I μ hk ⟨hx,he⟩ next
  refine ⟨fun h1=>?_,fun h1=>?_⟩
  ·simp only [decide_eq_true_eq] at h1
   obtain ⟨y,hy⟩:=q00 (l:=l) (k:=k) (by omega)
   obtain ⟨z,hz⟩:=q00 (l:=r) (k:=k) (by omega)
   obtain ⟨q2,h2,g0,g1,g2⟩:=(q0q.ext hx hs).at' hy
   obtain ⟨r2,k2,f0,f1,f2⟩:=(q0q.ext hx ht).at' hz
   refine ⟨by omega,by omega,_,g0,_,g1,_,g2,by omega,by omega,_,f0,_,f1,_,f2,(qpk h2 k2).mono ?_⟩
   rintro _ m2 ⟨b,rfl,hb,x2⟩
   refine ⟨b,rfl,fun h2=>retF (fun e=>nb hb h2 ?_) (hx.trans x2),fun h2=>next (by omega) _ ⟨hx.trans x2,?_⟩⟩
   ·subst e; rw [hy] at hz; simpa using hz
   ·rw [q06 hy,q06 hz,he,yb hb h2]
  ·simp only [decide_eq_false_iff_not] at h1
   rw [q0b (by omega),q0b (by omega)] at he
   exact retT he hx
theorem ql0 {m:Mem} {s:Sl} {pos:List (Nat × Nat)} (h:Walk m (.rows q53 s.len) s.blk s.off pos) (hlim:s.len<=9223372036854775807) {k:Int} (hk:0<=k/\k+pos.length<=4611686018427387904):q08 Tryz.prog q87 [Sl.v s,vi k] m (MarkR k pos m):=by
 apply qgp
 obtain ⟨ps,hpl,rfl,hp⟩:=Walk.split h
 refine forSI (σ:=Int) (n:=s.len) hlim (fun j c m'=>c=k+(ps.take j).flatten.length/\MkR m k (ps.take j).flatten m') ⟨by simp,MkR.nil (Ext.refl _) _⟩ ?_
 rintro j c m1 I μ hj ⟨rfl,G⟩ next
 refine ⟨fun h1=>?_,fun h1=>?_⟩
 ·simp only [decide_eq_true_eq] at h1
  obtain ⟨pj,hpj⟩:=q00 (l:=ps) (k:=j) (by omega)
  have hlen:(ps.take j).flatten.length+pj.length<=ps.flatten.length:=by
   have e1:(ps.take (j+1)).flatten.length=(ps.take j).flatten.length+pj.length:=by rw [q06 hpj]; simp
   have e2:ps.flatten.length=(ps.take (j+1)).flatten.length+(ps.drop (j+1)).flatten.length:=by rw [← List.length_append,← List.flatten_append,List.take_append_drop]
   omega
  have hq:∀ p ∈ (ps.take j).flatten,∃ n,gcell m p.1 p.2=some (vi n):=fun p hp'=>h.ints p (by
   rw [← List.take_append_drop j ps,List.flatten_append]; exact List.mem_append_left _ hp')
  have W0:Walk m1 (.row q53) s.blk (s.off+j*3) pj:=(hp j pj hpj).mark G hq
  have ej:Int.toNat (j:Int)=j:=by omega
  have hnext:(ps.take (j+1)).flatten=(ps.take j).flatten ++ pj:=by rw [q06 hpj]; simp
  generalize hacc:(ps.take j).flatten=acc at *
  refine ⟨by omega,by omega,?_⟩
  rw [ej]
  simp only [q53] at W0
  obtain ⟨v0,p0,g0,f0,rfl,W1⟩:=Walk.inv_int W0
  have e0:w64 (k+((acc).length:Int)+1)=k+((acc ++ [(s.blk,s.off+j*3)]).length:Int):=by simp only [List.length_append,List.length_cons,List.length_nil] at hlen ⊢; rw [q07 (by omega) (by omega)]; omega
  refine ⟨fun i hi=>?_,?_⟩
  ·have:i=0:=by omega
   subst this; exact ⟨by rw [Nat.add_zero]; rw [show gcell m1 s.blk (s.off+j*3)=_ from g0]; rfl,f0⟩
  rw [e0]
  intro m2
  have O0:MkR m1 (k+((acc).length:Int)) [(s.blk,s.off+j*3)] m2:=MkR.one (by rw [show gcell m1 s.blk (s.off+j*3)=_ from g0]; rfl) _
  replace W1:=W1.mark O0 (by simpa using ⟨v0,g0⟩)
  replace G:=G.trans O0
  clear_value m2
  refine ⟨by omega,by omega,?_⟩
  obtain ⟨v1,p1,g1,f1,rfl,W2⟩:=Walk.inv_int W1
  have e1:w64 (k+((acc ++ [(s.blk,s.off+j*3)]).length:Int)+1)=k+((acc ++ [(s.blk,s.off+j*3)] ++ [(s.blk,s.off+j*3+1)]).length:Int):=by simp only [List.length_append,List.length_cons,List.length_nil] at hlen ⊢; rw [q07 (by omega) (by omega)]; omega
  refine ⟨fun i hi=>?_,?_⟩
  ·have:i=0:=by omega
   subst this; exact ⟨by rw [Nat.add_zero]; rw [show gcell m2 s.blk (s.off+j*3+1)=_ from g1]; rfl,f1⟩
  rw [e1]
  intro m3
  have O1:MkR m2 (k+((acc ++ [(s.blk,s.off+j*3)]).length:Int)) [(s.blk,s.off+j*3+1)] m3:=MkR.one (by rw [show gcell m2 s.blk (s.off+j*3+1)=_ from g1]; rfl) _
  replace W2:=W2.mark O1 (by simpa using ⟨v1,g1⟩)
  replace G:=G.trans O1
  clear_value m3
  refine ⟨by omega,by omega,?_⟩
  obtain ⟨t2,p2,d2,g2,L2,V2,rfl,W3⟩:=Walk.inv_sl W2
  refine ⟨t2,g2,(qnf V2 L2 (k:=k+((acc ++ [(s.blk,s.off+j*3)] ++ [(s.blk,s.off+j*3+1)]).length:Int)) (by simp only [List.length_append,List.length_cons,List.length_nil] at hlen ⊢; omega)).mono ?_⟩
  rintro _ m4 ⟨rfl,O2⟩
  have e2:k+((acc ++ [(s.blk,s.off+j*3)] ++ [(s.blk,s.off+j*3+1)]).length:Int)+(p2.length:Int)=k+((acc ++ [(s.blk,s.off+j*3)] ++ [(s.blk,s.off+j*3+1)] ++ p2).length:Int):=by simp only [List.length_append]; omega
  rw [e2]
  replace W3:=W3.mark O2 V2.ints
  replace G:=G.trans O2
  refine ⟨_,rfl,?_⟩
  have hz:=Walk.inv_nil W3
  subst hz
  refine next (by omega) _ _ ⟨?_,?_⟩
  ·rw [hnext]; simp
  ·rw [hnext]; simpa using G
 ·simp only [decide_eq_false_iff_not] at h1
  have:j=s.len:=by omega
  subst this
  rw [q0b (by omega)] at G
  exact ⟨by rw [q0b (by omega)],G⟩
/-! Instr -/
def q5i:Row:=.int (.int (.int (.int (.sl (.int .nil) (.sl (.int .nil) (.nil))))))
def qam (x:Instr):Prop:=(x.args).length<=1048576/\(x.jumps).length<=1048576
def qbd (l:List (Instr)):Prop:=l.length<=1048576/\∀ x ∈ l,qam x
def q1n (m0 m:Mem) (cs:List Ce) (x:Instr):Prop:=∃ q4 q5:Sl,cs=[.i x.op,.i x.dst,.i x.num,.i x.into,.s q4,.s q5]/\CpI m0 m q4 (x.args)/\CpI m0 m q5 (x.jumps)
abbrev q6r (m0 m:Mem) (s:Sl) (l:List (Instr)):Prop:=CpS q2d 6 (q1n m0 m) m0 m s l
theorem q1n.mono {m0 m m1 m':Mem} (hk:Kp m0.size m m') (hb:m1.size<=m0.size) {cs:List Ce} {x:Instr}:q1n m0 m cs x->q1n m1 m' cs x:=by
 rintro ⟨q4,q5,rfl,h4,h5⟩
 exact ⟨q4,q5,rfl,(h4.keep hk).base hb,(h5.keep hk).base hb⟩
theorem q1n.read {m0 m:Mem} {cs:List Ce} {x:Instr} (h:q1n m0 m cs x) (hs:qam x):InstrR m cs x:=by
 obtain ⟨q4,q5,rfl,h4,h5⟩:=h
 exact ⟨q4,q5,rfl,q03.ofOwn h4 (by have:(x.args).length<=1048576:=hs.1; omega),q03.ofOwn h5 (by have:(x.jumps).length<=1048576:=hs.2; omega)⟩
theorem q6r.read {m0 m:Mem} {s:Sl} {l:List (Instr)} (h:q6r m0 m s l) (hs:qbd l):q1c m s l:=CpS.read (sz:=5) h (fun cs x hx hr=>q1n.read hr (hs.2 x hx)) hs.1
theorem q1n.walk {m0 m:Mem} {cs:List Ce} {x:Instr} (h:q1n m0 m cs x) (hs:qam x) (b o:Nat) (hr:rowIs m b o cs) (hf:∀ i,i < cs.length->Vc.froz m b (o+i)=false) (hb:m0.size<=b):∃ pos,Walk m (.row q5i) b o pos/\(∀ p ∈ pos,m0.size<=p.1)/\pos.length<=2097156:=by
 obtain ⟨q4,q5,rfl,h4,h5⟩:=h
 obtain ⟨p4,w4,b4,l4⟩:=CpI.walk h4 hs.1
 have v4:q4.len<=9223372036854775807:=by have:=CpI.slen h4; have:(x.args).length<=1048576:=hs.1; omega
 obtain ⟨p5,w5,b5,l5⟩:=CpI.walk h5 hs.2
 have v5:q5.len<=9223372036854775807:=by have:=CpI.slen h5; have:(x.jumps).length<=1048576:=hs.2; omega
 refine ⟨(b,o+0) :: ((b,o+1) :: ((b,o+2) :: ((b,o+3) :: (p4 ++ (p5 ++ ([])))))),.int (hr 0 (.i x.op) rfl) (hf 0 (by simp)) (.int (hr 1 (.i x.dst) rfl) (hf 1 (by simp)) (.int (hr 2 (.i x.num) rfl) (hf 2 (by simp)) (.int (hr 3 (.i x.into) rfl) (hf 3 (by simp)) (.sl (s:=q4) (hr 4 (.s q4) rfl) v4 w4 (.sl (s:=q5) (hr 5 (.s q5) rfl) v5 w5 (.nil _ _)))))),fun p hp=>?_,?_⟩
 ·simp only [List.mem_append,List.mem_cons,List.not_mem_nil,or_false] at hp
  rcases hp with rfl | rfl | rfl | rfl | hp | hp
  ·exact hb
  ·exact hb
  ·exact hb
  ·exact hb
  ·exact b4 p hp
  ·exact b5 p hp
 ·simp only [List.length_append,List.length_cons,List.length_nil]; omega
theorem q6r.walk {m0 m:Mem} {s:Sl} {l:List (Instr)} (h:q6r m0 m s l) (hs:qbd l):∃ pos,Walk m (.rows q5i s.len) s.blk s.off pos/\(∀ p ∈ pos,m0.size<=p.1)/\pos.length<=2199027449856:=by
 obtain ⟨pos,h1,h2,h3⟩:=CpS.walk (sz:=5) (r:=q5i) h rfl (fun cs x hx hr=>q1n.walk hr (hs.2 x hx))
 exact ⟨pos,h1,h2,Nat.le_trans h3 (Nat.le_trans (Nat.mul_le_mul_right 2097156 hs.1) (by decide))⟩
theorem qod {m:Mem} {x:Instr} {q4 q5:Sl} (h4:q03 m q4 (x.args)) (h5:q03 m q5 (x.jumps)) {left:Int} (z0:Lft left):q08 Tryz.prog qa1 [.agg #[vi x.op,vi x.dst,vi x.num,vi x.into,Sl.v q4,Sl.v q5],vi left] m (SzR left (qam x) m):=by
 apply qjf
 simp -zeta only [q0a,q09,rI,rS,rB,cI,cB,cS,dI,dB,dS,gk,rg]
 intro m1
 have e0:Ext m m1:=(Ext.refl m).pushed _
 have s1:m1.size=m.size+1:=by simp [m1]
 clear_value m1
 obtain ⟨z1,z2⟩:=z0
 refine (q2i (h4.ext e0) (left:=left) ⟨by omega,by omega⟩).mono ?_
 rintro _ m2 ⟨n1,rfl,le1,sm1,x1⟩
 have e1:Ext m m2:=e0.trans x1
 refine ⟨x1.sam (by simp; omega),n1,rfl,fun h=>⟨-1,rfl,by omega,fun h=>by omega,e1⟩,fun h=>?_⟩
 simp only [decide_eq_false_iff_not] at h
 have y1:m.size+1<=m2.size:=by have:=x1.size; omega
 refine (q2i (h5.ext e1) (left:=n1) ⟨by omega,by omega⟩).mono ?_
 rintro _ m3 ⟨n2,rfl,le2,sm2,x2⟩
 have e2:Ext m m3:=e1.trans x2
 refine ⟨x2.sam (by simp; omega),n2,rfl,fun h=>⟨-1,rfl,by omega,fun h=>by omega,e2⟩,fun h=>?_⟩
 simp only [decide_eq_false_iff_not] at h
 have y2:m.size+1<=m3.size:=by have:=x2.size; omega
 exact ⟨_,rfl,by omega,fun _=>⟨sm1 (by omega),sm2 (by omega)⟩,e2⟩
theorem qmp {m:Mem} {s:Sl} {l:List (Instr)} (h:q1c m s l) {left:Int} (z0:Lft left):q08 Tryz.prog q99 [Sl.v s,vi left] m (SzR left (qbd l) m):=by
 apply qhm
 have h1:=h.len
 have h2:=h.lim
 obtain ⟨h3,h4⟩:=z0
 have e:w64 (left - (s.len:Int))=left - s.len:=q07 (by omega) (by omega)
 rw [e]
 refine ⟨fun _=>⟨-1,rfl,by omega,fun h=>by omega,Ext.refl _⟩,fun h5=>?_⟩
 simp only [decide_eq_false_iff_not] at h5
 refine forSI (σ:=Int) (n:=l.length) (by omega) (fun k n m'=>0<=n/\n<=left/\Ext m m'/\∀ x ∈ l.take k,qam x) ⟨by omega,by omega,Ext.refl _,by simp⟩ ?_
 rintro k n m1 I μ hk ⟨hn,hn2,hx,hs⟩ next
 refine ⟨fun h6=>?_,fun h6=>?_⟩
 ·simp only [decide_eq_true_eq] at h6
  obtain ⟨y,hy⟩:=q00 (l:=l) (k:=k) (by omega)
  obtain ⟨q4,q5,h4,h5,g0,g1,g2,g3,g4,g5⟩:=(q1c.ext hx h).at' hy
  refine ⟨by omega,by omega,_,g0,_,g1,_,g2,_,g3,_,g4,_,g5,(qod h4 h5 ⟨hn,by omega⟩).mono ?_⟩
  rintro _ m2 ⟨n2,rfl,le2,sm2,hx2⟩
  refine ⟨n2,rfl,fun h=>⟨-1,rfl,by omega,fun h=>by omega,hx.trans hx2⟩,fun h7=>?_⟩
  simp only [decide_eq_false_iff_not] at h7
  refine next (by omega) _ _ ⟨by omega,by omega,hx.trans hx2,fun x hxm=>?_⟩
  rw [q06 hy] at hxm
  rcases List.mem_append.1 hxm with h8 | h8
  ·exact hs x h8
  ·simp at h8; subst h8; exact sm2 (by omega)
 ·simp only [decide_eq_false_iff_not] at h6
  rw [q0b (by omega)] at hs
  exact ⟨n,rfl,hn2,fun _=>⟨by omega,hs⟩,hx⟩
theorem qok {m:Mem} {x:Instr} {q4 q5:Sl} (h4:q03 m q4 (x.args)) (h5:q03 m q5 (x.jumps)) (hs:qam x):q08 Tryz.prog qaf [.agg #[vi x.op,vi x.dst,vi x.num,vi x.into,Sl.v q4,Sl.v q5]] m fun v m'=>∃ r4 r5:Sl,v=.agg #[vi x.op,vi x.dst,vi x.num,vi x.into,Sl.v r4,Sl.v r5]/\q1n m m' [.i x.op,.i x.dst,.i x.num,.i x.into,.s r4,.s r5] x/\Ext m m':=by
 apply qj3
 simp -zeta only [q0a,q09,rI,rS,rB,cI,cB,cS,dI,dB,dS,gk,rg]
 intro m1 m2 m3
 have s1:m1.size=m.size+1:=by simp [m1]
 have s2:m2.size=m.size+2:=by simp [m2,s1]
 have s3:m3.size=m.size+3:=by simp [m3,s2]
 have x3:Ext m m3:=(((Ext.refl m).pushed _).pushed _).pushed _
 have y3:m3.size<=m3.size:=Nat.le_refl _
 clear_value m3
 intro m4
 have x4:Ext m m4:=x3.scells (by omega) _ _
 have y4:m3.size<=m4.size:=Nat.le_trans y3 (Nat.le_of_eq (q02 _ _ _ _).symm)
 have kp4:Kp m3.size m3 m4:=Kp.box (by omega) _ _
 clear_value m4
 intro m5
 have x5:Ext m m5:=x4.scells (by omega) _ _
 have y5:m3.size<=m5.size:=Nat.le_trans y4 (Nat.le_of_eq (q02 _ _ _ _).symm)
 have kp5:Kp m3.size m4 m5:=Kp.box (by omega) _ _
 clear_value m5
 intro m6
 have x6:Ext m m6:=x5.scells (by omega) _ _
 have y6:m3.size<=m6.size:=Nat.le_trans y5 (Nat.le_of_eq (q02 _ _ _ _).symm)
 have kp6:Kp m3.size m5 m6:=Kp.box (by omega) _ _
 clear_value m6
 intro m7
 have x7:Ext m m7:=x6.scells (by omega) _ _
 have y7:m3.size<=m7.size:=Nat.le_trans y6 (Nat.le_of_eq (q02 _ _ _ _).symm)
 have kp7:Kp m3.size m6 m7:=Kp.box (by omega) _ _
 clear_value m7
 refine (q2g (h4.ext x7) hs.1).mono ?_
 rintro _ m8 ⟨r4,rfl,c4,u8⟩
 have x8:Ext m m8:=x7.trans u8
 have y8:m3.size<=m8.size:=by have:=u8.size; omega
 have kp8:Kp m3.size m7 m8:=Kp.ext u8
 replace c4:=Own.base (m0:=m3) c4 y7
 refine ⟨u8.sam (by simp; omega),r4,rfl,?_⟩
 intro m9
 have x9:Ext m m9:=x8.scells (by omega) _ _
 have y9:m3.size<=m9.size:=Nat.le_trans y8 (Nat.le_of_eq (q02 _ _ _ _).symm)
 have kp9:Kp m3.size m8 m9:=Kp.box (by omega) _ _
 clear_value m9
 replace c4:=c4.keep (kp9)
 refine (q2g (h5.ext x9) hs.2).mono ?_
 rintro _ m10 ⟨r5,rfl,c5,u10⟩
 have x10:Ext m m10:=x9.trans u10
 have y10:m3.size<=m10.size:=by have:=u10.size; omega
 have kp10:Kp m3.size m9 m10:=Kp.ext u10
 replace c4:=c4.keep (kp10)
 replace c5:=Own.base (m0:=m3) c5 y9
 refine ⟨u10.sam (by simp; omega),r5,rfl,?_⟩
 intro m11
 have x11:Ext m m11:=x10.scells (by omega) _ _
 have y11:m3.size<=m11.size:=Nat.le_trans y10 (Nat.le_of_eq (q02 _ _ _ _).symm)
 have kp11:Kp m3.size m10 m11:=Kp.box (by omega) _ _
 clear_value m11
 replace c4:=c4.keep (kp11)
 replace c5:=c5.keep (kp11)
 intro m12
 have x12:Ext m m12:=x11.scells (by omega) _ _
 have kp12:Kp m3.size m11 m12:=Kp.box (by omega) _ _
 clear_value m12
 replace c4:=c4.keep (kp12)
 replace c5:=c5.keep (kp12)
 have hR:q1n m3 m12 [.i x.op,.i x.dst,.i x.num,.i x.into,.s r4,.s r5] x:=⟨r4,r5,rfl,c4,c5⟩
 exact ⟨r4,r5,rfl,q1n.mono (Kp.ext (Ext.refl _)) (by omega) hR,x12⟩
theorem qmk {m:Mem} {s:Sl} {l:List (Instr)} (h:q1c m s l) (hs:qbd l):q08 Tryz.prog q92 [Sl.v s] m fun v m'=>∃ s',v=Sl.v s'/\q6r m m' s' l/\Ext m m':=by
 apply qhu
 have hsl:=h.len
 have hl:=hs.1
 have e0:Int.toNat (s.len:Int)=l.length:=by omega
 rw [e0]
 refine ⟨by omega,Int.le_refl _,by omega,by omega,?_⟩
 intro m1
 have x1:Ext m m1:=(Ext.refl m).pushed _
 have s1:m1.size=m.size+1:=by simp [m1]
 have k1:Blk m1 m.size q2d (zrow [.i (0:Int),.i (0:Int),.i (0:Int),.i (0:Int),.s Sl.nil,.s Sl.nil] l.length):=Blk.push m _ _
 clear_value m1
 simp -zeta only [Sl.blk_mk,Sl.off_mk,Sl.len_mk,Nat.zero_add]
 refine forI (n:=l.length) (by omega) (fun k m'=>Ext m m'/\m1.size<=m'.size/\∃ css,Blk m' m.size q2d (css.flatten ++ zrow [.i (0:Int),.i (0:Int),.i (0:Int),.i (0:Int),.s Sl.nil,.s Sl.nil] (l.length - css.length))/\css.length=k/\RowsOf 6 (q1n m1 m') css (l.take k)) ⟨x1,Nat.le_refl _,[],by simpa using k1,rfl,by simpa using RowsOf.nil _ _⟩ ?_
 rintro k m2 I μ hk ⟨hx,hm2,css,kk,hck,hrow⟩ next
 refine ⟨fun h6=>?_,fun h6=>?_⟩
 ·simp only [decide_eq_true_eq] at h6
  obtain ⟨y,hy⟩:=q00 (l:=l) (k:=k) (by omega)
  obtain ⟨q4,q5,h4,h5,g0,g1,g2,g3,g4,g5⟩:=(q1c.ext hx h).at' hy
  refine ⟨by omega,by omega,_,g0,_,g1,_,g2,_,g3,_,g4,_,g5,(qok h4 h5 (hs.2 y (q05 hy))).mono ?_⟩
  rintro _ m3 ⟨r4,r5,rfl,hc,x3⟩
  have ek:Int.toNat (k:Int)=k:=by omega
  have hm3:=x3.size
  refine ⟨_,_,_,_,_,_,rfl,by omega,by omega,?_⟩
  rw [ek]
  have hfl:css.flatten.length=k*6:=by rw [q0g hrow.size,hck]
  refine ⟨(kk.ext x3).wrOk (by rw [List.length_append,hfl,qad,hck]; simp only [List.length_cons,List.length_nil]; omega),next (by omega) _ ⟨(hx.trans x3).scells (Nat.le_refl _) _ _,by rw [q02]; omega,css ++ [[.i y.op,.i y.dst,.i y.num,.i y.into,.s r4,.s r5]],?_,by simp [hck],?_⟩⟩
  ·have:=Blk.scells (m:=m3) (o:=k*6) (r:=[.i y.op,.i y.dst,.i y.num,.i y.into,.s r4,.s r5]) (kk.ext x3)
   have e1:=fillRow (css:=css) (zs:=[.i (0:Int),.i (0:Int),.i (0:Int),.i (0:Int),.s Sl.nil,.s Sl.nil]) (cs:=[.i y.op,.i y.dst,.i y.num,.i y.into,.s r4,.s r5]) (n:=l.length) hrow.size rfl (by omega)
   simp only [List.length_cons,List.length_nil,Nat.zero_add,hck] at e1
   rw [hck] at this
   rw [e1] at this
   simpa [hck] using this
  ·rw [q06 hy]
   have kp:Kp m1.size m2 (scells m3 m.size (k*6) [.i y.op,.i y.dst,.i y.num,.i y.into,.s r4,.s r5]):=fun b hb1 hb2=>by rw [q0n _ _ _ _ (by omega),x3.same b hb2]
   refine RowsOf.snoc ⟨hrow.len,hrow.size,fun j cs x hj hx=>q1n.mono kp (Nat.le_refl _) (hrow.each j cs x hj hx)⟩ rfl (q1n.mono (m0:=m2) (m1:=m1) (m:=m3) (Kp.box (by omega) _ _) (by omega) hc)
 ·simp only [decide_eq_false_iff_not] at h6
  have:k=l.length:=by omega
  subst this
  rw [q0b (Nat.le_refl _)] at hrow
  have e2:l.length - css.length=0:=by omega
  rw [e2] at kk
  simp only [zrow,List.replicate_zero,List.flatten_nil,List.append_nil] at kk
  exact ⟨_,rfl,⟨css,⟨by simp only [Sl.len_mk]; rw [q0g hrow.size,hck],Or.inr ⟨m.size,l.length,[],rfl,Nat.le_refl _,by rw [List.append_nil]; exact kk,by rw [List.append_nil,q0g hrow.size,hck],Nat.le_refl _⟩⟩,hrow.len,hrow.size,fun j cs x hj hx=>q1n.mono (Kp.ext (Ext.refl _)) (by omega) (hrow.each j cs x hj hx)⟩,hx⟩
theorem qox {m:Mem} {x y:Instr} {q4 q5 r4 r5:Sl} (h4:q03 m q4 (x.args)) (h5:q03 m q5 (x.jumps)) (k4:q03 m r4 (y.args)) (k5:q03 m r5 (y.jumps)):q0o Tryz.prog qak [.agg #[vi x.op,vi x.dst,vi x.num,vi x.into,Sl.v q4,Sl.v q5],.agg #[vi y.op,vi y.dst,vi y.num,vi y.into,Sl.v r4,Sl.v r5]] m (x=y):=by
 apply qj1
 simp -zeta only [q0a,q09,rI,rS,rB,cI,cB,cS,dI,dB,dS,gk,rg]
 intro m1 m2
 have x2:Ext m m2:=((Ext.refl m).pushed _).pushed _
 have s1:m1.size=m.size+1:=by simp [m1]
 have s2:m2.size=m.size+2:=by simp [m2,s1]
 have y2:m.size+2<=m2.size:=by omega
 clear_value m2
 refine ⟨fun h=>retF (fun e=>by subst e; simp at h) x2,fun i0=>?_⟩
 simp only [bne_eq_false_iff_eq] at i0
 refine ⟨fun h=>retF (fun e=>by subst e; simp at h) x2,fun i1=>?_⟩
 simp only [bne_eq_false_iff_eq] at i1
 refine ⟨fun h=>retF (fun e=>by subst e; simp at h) x2,fun i2=>?_⟩
 simp only [bne_eq_false_iff_eq] at i2
 refine ⟨fun h=>retF (fun e=>by subst e; simp at h) x2,fun i3=>?_⟩
 simp only [bne_eq_false_iff_eq] at i3
 refine (q2h (h4.ext x2) (k4.ext x2)).mono ?_
 rintro _ m3 ⟨b4,rfl,hb4,u3⟩
 have x3:Ext m m3:=x2.trans u3
 have y3:m.size+2<=m3.size:=by have:=u3.size; omega
 refine ⟨u3.sam (by simp; omega),b4,rfl,fun h=>retF (fun e=>by subst e; exact nb hb4 h rfl) x3,fun h=>?_⟩
 have i4:=yb hb4 h
 clear h
 refine (q2h (h5.ext x3) (k5.ext x3)).mono ?_
 rintro _ m4 ⟨b5,rfl,hb5,u4⟩
 have x4:Ext m m4:=x3.trans u4
 have y4:m.size+2<=m4.size:=by have:=u4.size; omega
 refine ⟨u4.sam (by simp; omega),b5,rfl,fun h=>retF (fun e=>by subst e; exact nb hb5 h rfl) x4,fun h=>?_⟩
 have i5:=yb hb5 h
 clear h
 refine retT ?_ x4
 cases x; cases y; simp only [] at i0 i1 i2 i3 i4 i5
 simp only [i0,i1,i2,i3,i4,i5]
theorem qn7 {m:Mem} {s t:Sl} {l r:List (Instr)} (hs:q1c m s l) (ht:q1c m t r):q0o Tryz.prog q9i [Sl.v s,Sl.v t] m (l=r):=by
 apply qhn
 have hsl:=hs.len
 have htl:=ht.len
 refine ⟨fun h=>retF (fun e=>?_) (Ext.refl _),fun h=>?_⟩
 ·subst e; simp at h; omega
 ·have hlen:l.length=r.length:=by simp at h; omega
  refine forI (n:=l.length) (hsl ▸ hs.lim) (fun k m'=>Ext m m'/\l.take k=r.take k) ⟨Ext.refl _,by simp⟩ ?_
  rintro k m1 I μ hk ⟨hx,he⟩ next
  refine ⟨fun h1=>?_,fun h1=>?_⟩
  ·simp only [decide_eq_true_eq] at h1
   obtain ⟨y,hy⟩:=q00 (l:=l) (k:=k) (by omega)
   obtain ⟨z,hz⟩:=q00 (l:=r) (k:=k) (by omega)
   obtain ⟨q4,q5,h4,h5,g0,g1,g2,g3,g4,g5⟩:=(q1c.ext hx hs).at' hy
   obtain ⟨r4,r5,k4,k5,f0,f1,f2,f3,f4,f5⟩:=(q1c.ext hx ht).at' hz
   refine ⟨by omega,by omega,_,g0,_,g1,_,g2,_,g3,_,g4,_,g5,by omega,by omega,_,f0,_,f1,_,f2,_,f3,_,f4,_,f5,(qox h4 h5 k4 k5).mono ?_⟩
   rintro _ m2 ⟨b,rfl,hb,x2⟩
   refine ⟨b,rfl,fun h2=>retF (fun e=>nb hb h2 ?_) (hx.trans x2),fun h2=>next (by omega) _ ⟨hx.trans x2,?_⟩⟩
   ·subst e; rw [hy] at hz; simpa using hz
   ·rw [q06 hy,q06 hz,he,yb hb h2]
  ·simp only [decide_eq_false_iff_not] at h1
   rw [q0b (by omega),q0b (by omega)] at he
   exact retT he hx
theorem qil {m:Mem} {s:Sl} {pos:List (Nat × Nat)} (h:Walk m (.rows q5i s.len) s.blk s.off pos) (hlim:s.len<=9223372036854775807) {k:Int} (hk:0<=k/\k+pos.length<=4611686018427387904):q08 Tryz.prog q7f [Sl.v s,vi k] m (MarkR k pos m):=by
 apply qf1
 obtain ⟨ps,hpl,rfl,hp⟩:=Walk.split h
 refine forSI (σ:=Int) (n:=s.len) hlim (fun j c m'=>c=k+(ps.take j).flatten.length/\MkR m k (ps.take j).flatten m') ⟨by simp,MkR.nil (Ext.refl _) _⟩ ?_
 rintro j c m1 I μ hj ⟨rfl,G⟩ next
 refine ⟨fun h1=>?_,fun h1=>?_⟩
 ·simp only [decide_eq_true_eq] at h1
  obtain ⟨pj,hpj⟩:=q00 (l:=ps) (k:=j) (by omega)
  have hlen:(ps.take j).flatten.length+pj.length<=ps.flatten.length:=by
   have e1:(ps.take (j+1)).flatten.length=(ps.take j).flatten.length+pj.length:=by rw [q06 hpj]; simp
   have e2:ps.flatten.length=(ps.take (j+1)).flatten.length+(ps.drop (j+1)).flatten.length:=by rw [← List.length_append,← List.flatten_append,List.take_append_drop]
   omega
  have hq:∀ p ∈ (ps.take j).flatten,∃ n,gcell m p.1 p.2=some (vi n):=fun p hp'=>h.ints p (by
   rw [← List.take_append_drop j ps,List.flatten_append]; exact List.mem_append_left _ hp')
  have W0:Walk m1 (.row q5i) s.blk (s.off+j*6) pj:=(hp j pj hpj).mark G hq
  have ej:Int.toNat (j:Int)=j:=by omega
  have hnext:(ps.take (j+1)).flatten=(ps.take j).flatten ++ pj:=by rw [q06 hpj]; simp
  generalize hacc:(ps.take j).flatten=acc at *
  refine ⟨by omega,by omega,?_⟩
  rw [ej]
  simp only [q5i] at W0
  obtain ⟨v0,p0,g0,f0,rfl,W1⟩:=Walk.inv_int W0
  have e0:w64 (k+((acc).length:Int)+1)=k+((acc ++ [(s.blk,s.off+j*6)]).length:Int):=by simp only [List.length_append,List.length_cons,List.length_nil] at hlen ⊢; rw [q07 (by omega) (by omega)]; omega
  refine ⟨fun i hi=>?_,?_⟩
  ·have:i=0:=by omega
   subst this; exact ⟨by rw [Nat.add_zero]; rw [show gcell m1 s.blk (s.off+j*6)=_ from g0]; rfl,f0⟩
  rw [e0]
  intro m2
  have O0:MkR m1 (k+((acc).length:Int)) [(s.blk,s.off+j*6)] m2:=MkR.one (by rw [show gcell m1 s.blk (s.off+j*6)=_ from g0]; rfl) _
  replace W1:=W1.mark O0 (by simpa using ⟨v0,g0⟩)
  replace G:=G.trans O0
  clear_value m2
  refine ⟨by omega,by omega,?_⟩
  obtain ⟨v1,p1,g1,f1,rfl,W2⟩:=Walk.inv_int W1
  have e1:w64 (k+((acc ++ [(s.blk,s.off+j*6)]).length:Int)+1)=k+((acc ++ [(s.blk,s.off+j*6)] ++ [(s.blk,s.off+j*6+1)]).length:Int):=by simp only [List.length_append,List.length_cons,List.length_nil] at hlen ⊢; rw [q07 (by omega) (by omega)]; omega
  refine ⟨fun i hi=>?_,?_⟩
  ·have:i=0:=by omega
   subst this; exact ⟨by rw [Nat.add_zero]; rw [show gcell m2 s.blk (s.off+j*6+1)=_ from g1]; rfl,f1⟩
  rw [e1]
  intro m3
  have O1:MkR m2 (k+((acc ++ [(s.blk,s.off+j*6)]).length:Int)) [(s.blk,s.off+j*6+1)] m3:=MkR.one (by rw [show gcell m2 s.blk (s.off+j*6+1)=_ from g1]; rfl) _
  replace W2:=W2.mark O1 (by simpa using ⟨v1,g1⟩)
  replace G:=G.trans O1
  clear_value m3
  refine ⟨by omega,by omega,?_⟩
  obtain ⟨v2,p2,g2,f2,rfl,W3⟩:=Walk.inv_int W2
  have e2:w64 (k+((acc ++ [(s.blk,s.off+j*6)] ++ [(s.blk,s.off+j*6+1)]).length:Int)+1)=k+((acc ++ [(s.blk,s.off+j*6)] ++ [(s.blk,s.off+j*6+1)] ++ [(s.blk,s.off+j*6+2)]).length:Int):=by simp only [List.length_append,List.length_cons,List.length_nil] at hlen ⊢; rw [q07 (by omega) (by omega)]; omega
  refine ⟨fun i hi=>?_,?_⟩
  ·have:i=0:=by omega
   subst this; exact ⟨by rw [Nat.add_zero]; rw [show gcell m3 s.blk (s.off+j*6+2)=_ from g2]; rfl,f2⟩
  rw [e2]
  intro m4
  have O2:MkR m3 (k+((acc ++ [(s.blk,s.off+j*6)] ++ [(s.blk,s.off+j*6+1)]).length:Int)) [(s.blk,s.off+j*6+2)] m4:=MkR.one (by rw [show gcell m3 s.blk (s.off+j*6+2)=_ from g2]; rfl) _
  replace W3:=W3.mark O2 (by simpa using ⟨v2,g2⟩)
  replace G:=G.trans O2
  clear_value m4
  refine ⟨by omega,by omega,?_⟩
  obtain ⟨v3,p3,g3,f3,rfl,W4⟩:=Walk.inv_int W3
  have e3:w64 (k+((acc ++ [(s.blk,s.off+j*6)] ++ [(s.blk,s.off+j*6+1)] ++ [(s.blk,s.off+j*6+2)]).length:Int)+1)=k+((acc ++ [(s.blk,s.off+j*6)] ++ [(s.blk,s.off+j*6+1)] ++ [(s.blk,s.off+j*6+2)] ++ [(s.blk,s.off+j*6+3)]).length:Int):=by simp only [List.length_append,List.length_cons,List.length_nil] at hlen ⊢; rw [q07 (by omega) (by omega)]; omega
  refine ⟨fun i hi=>?_,?_⟩
  ·have:i=0:=by omega
   subst this; exact ⟨by rw [Nat.add_zero]; rw [show gcell m4 s.blk (s.off+j*6+3)=_ from g3]; rfl,f3⟩
  rw [e3]
  intro m5
  have O3:MkR m4 (k+((acc ++ [(s.blk,s.off+j*6)] ++ [(s.blk,s.off+j*6+1)] ++ [(s.blk,s.off+j*6+2)]).length:Int)) [(s.blk,s.off+j*6+3)] m5:=MkR.one (by rw [show gcell m4 s.blk (s.off+j*6+3)=_ from g3]; rfl) _
  replace W4:=W4.mark O3 (by simpa using ⟨v3,g3⟩)
  replace G:=G.trans O3
  clear_value m5
  refine ⟨by omega,by omega,?_⟩
  obtain ⟨t4,p4,d4,g4,L4,V4,rfl,W5⟩:=Walk.inv_sl W4
  refine ⟨t4,g4,(q20 V4 (k:=k+((acc ++ [(s.blk,s.off+j*6)] ++ [(s.blk,s.off+j*6+1)] ++ [(s.blk,s.off+j*6+2)] ++ [(s.blk,s.off+j*6+3)]).length:Int)) (by simp only [List.length_append,List.length_cons,List.length_nil] at hlen ⊢; omega)).mono ?_⟩
  rintro _ m6 ⟨rfl,O4⟩
  have e4:k+((acc ++ [(s.blk,s.off+j*6)] ++ [(s.blk,s.off+j*6+1)] ++ [(s.blk,s.off+j*6+2)] ++ [(s.blk,s.off+j*6+3)]).length:Int)+(p4.length:Int)=k+((acc ++ [(s.blk,s.off+j*6)] ++ [(s.blk,s.off+j*6+1)] ++ [(s.blk,s.off+j*6+2)] ++ [(s.blk,s.off+j*6+3)] ++ p4).length:Int):=by simp only [List.length_append]; omega
  rw [e4]
  replace W5:=W5.mark O4 V4.ints
  replace G:=G.trans O4
  refine ⟨_,rfl,?_⟩
  refine ⟨by omega,by omega,?_⟩
  obtain ⟨t5,p5,d5,g5,L5,V5,rfl,W6⟩:=Walk.inv_sl W5
  refine ⟨t5,g5,(q20 V5 (k:=k+((acc ++ [(s.blk,s.off+j*6)] ++ [(s.blk,s.off+j*6+1)] ++ [(s.blk,s.off+j*6+2)] ++ [(s.blk,s.off+j*6+3)] ++ p4).length:Int)) (by simp only [List.length_append,List.length_cons,List.length_nil] at hlen ⊢; omega)).mono ?_⟩
  rintro _ m7 ⟨rfl,O5⟩
  have e5:k+((acc ++ [(s.blk,s.off+j*6)] ++ [(s.blk,s.off+j*6+1)] ++ [(s.blk,s.off+j*6+2)] ++ [(s.blk,s.off+j*6+3)] ++ p4).length:Int)+(p5.length:Int)=k+((acc ++ [(s.blk,s.off+j*6)] ++ [(s.blk,s.off+j*6+1)] ++ [(s.blk,s.off+j*6+2)] ++ [(s.blk,s.off+j*6+3)] ++ p4 ++ p5).length:Int):=by simp only [List.length_append]; omega
  rw [e5]
  replace W6:=W6.mark O5 V5.ints
  replace G:=G.trans O5
  refine ⟨_,rfl,?_⟩
  have hz:=Walk.inv_nil W6
  subst hz
  refine next (by omega) _ _ ⟨?_,?_⟩
  ·rw [hnext]; simp
  ·rw [hnext]; simpa using G
 ·simp only [decide_eq_false_iff_not] at h1
  have:j=s.len:=by omega
  subst this
  rw [q0b (by omega)] at G
  exact ⟨by rw [q0b (by omega)],G⟩
/-! Proc -/
def q55:Row:=.sl (.int .nil) (.sl (.int .nil) (.int (.int (.sl q5i (.nil)))))
def qcq (x:Proc):Prop:=(x.params).length<=1048576/\(x.lent).length<=1048576/\qbd x.code
def qcs (l:List (Proc)):Prop:=l.length<=1048576/\∀ x ∈ l,qcq x
def q1v (m0 m:Mem) (cs:List Ce) (x:Proc):Prop:=∃ q0 q1 q4:Sl,cs=[.s q0,.s q1,.i x.result,.i x.regs,.s q4]/\CpI m0 m q0 (x.params)/\CpI m0 m q1 (x.lent)/\q6r m0 m q4 (x.code)
abbrev q6p (m0 m:Mem) (s:Sl) (l:List (Proc)):Prop:=CpS q9h 5 (q1v m0 m) m0 m s l
theorem q1v.mono {m0 m m1 m':Mem} (hk:Kp m0.size m m') (hb:m1.size<=m0.size) {cs:List Ce} {x:Proc}:q1v m0 m cs x->q1v m1 m' cs x:=by
 rintro ⟨q0,q1,q4,rfl,h0,h1,h4⟩
 exact ⟨q0,q1,q4,rfl,(h0.keep hk).base hb,(h1.keep hk).base hb,CpS.mono h4 (fun _ _=>q1n.mono hk hb) hk hb⟩
theorem q1v.read {m0 m:Mem} {cs:List Ce} {x:Proc} (h:q1v m0 m cs x) (hs:qcq x):ProcR m cs x:=by
 obtain ⟨q0,q1,q4,rfl,h0,h1,h4⟩:=h
 exact ⟨q0,q1,q4,rfl,q03.ofOwn h0 (by have:(x.params).length<=1048576:=hs.1; omega),q03.ofOwn h1 (by have:(x.lent).length<=1048576:=hs.2.1; omega),q6r.read h4 hs.2.2⟩
theorem q6p.read {m0 m:Mem} {s:Sl} {l:List (Proc)} (h:q6p m0 m s l) (hs:qcs l):ProcSl m s l:=CpS.read (sz:=4) h (fun cs x hx hr=>q1v.read hr (hs.2 x hx)) hs.1
theorem q1v.walk {m0 m:Mem} {cs:List Ce} {x:Proc} (h:q1v m0 m cs x) (hs:qcq x) (b o:Nat) (hr:rowIs m b o cs) (hf:∀ i,i < cs.length->Vc.froz m b (o+i)=false) (hb:m0.size<=b):∃ pos,Walk m (.row q55) b o pos/\(∀ p ∈ pos,m0.size<=p.1)/\pos.length<=2199029547010:=by
 obtain ⟨q0,q1,q4,rfl,h0,h1,h4⟩:=h
 obtain ⟨p0,w0,b0,l0⟩:=CpI.walk h0 hs.1
 have v0:q0.len<=9223372036854775807:=by have:=CpI.slen h0; have:(x.params).length<=1048576:=hs.1; omega
 obtain ⟨p1,w1,b1,l1⟩:=CpI.walk h1 hs.2.1
 have v1:q1.len<=9223372036854775807:=by have:=CpI.slen h1; have:(x.lent).length<=1048576:=hs.2.1; omega
 have v4:q4.len<=9223372036854775807:=by have:=CpS.len (sz:=5) h4; have:=hs.2.2.1; omega
 obtain ⟨p4,w4,b4,l4⟩:=CpS.walk (sz:=5) (r:=q5i) h4 rfl (fun cs x hx hr=>q1n.walk hr (hs.2.2.2 x hx))
 have g4:p4.length<=1048576*2097156:=Nat.le_trans l4 (Nat.mul_le_mul_right _ hs.2.2.1)
 refine ⟨p0 ++ (p1 ++ ((b,o+2) :: ((b,o+3) :: (p4 ++ ([]))))),.sl (s:=q0) (hr 0 (.s q0) rfl) v0 w0 (.sl (s:=q1) (hr 1 (.s q1) rfl) v1 w1 (.int (hr 2 (.i x.result) rfl) (hf 2 (by simp)) (.int (hr 3 (.i x.regs) rfl) (hf 3 (by simp)) (.sl (s:=q4) (hr 4 (.s q4) rfl) v4 w4 (.nil _ _))))),fun p hp=>?_,?_⟩
 ·simp only [List.mem_append,List.mem_cons,List.not_mem_nil,or_false] at hp
  rcases hp with hp | hp | rfl | rfl | hp
  ·exact b0 p hp
  ·exact b1 p hp
  ·exact hb
  ·exact hb
  ·exact b4 p hp
 ·simp only [List.length_append,List.length_cons,List.length_nil]; omega
theorem q6p.walk {m0 m:Mem} {s:Sl} {l:List (Proc)} (h:q6p m0 m s l) (hs:qcs l):∃ pos,Walk m (.rows q55 s.len) s.blk s.off pos/\(∀ p ∈ pos,m0.size<=p.1)/\pos.length<=2305849606285557760:=by
 obtain ⟨pos,h1,h2,h3⟩:=CpS.walk (sz:=4) (r:=q55) h rfl (fun cs x hx hr=>q1v.walk hr (hs.2 x hx))
 exact ⟨pos,h1,h2,Nat.le_trans h3 (Nat.le_trans (Nat.mul_le_mul_right 2199029547010 hs.1) (by decide))⟩
theorem qpd {m:Mem} {x:Proc} {q0 q1 q4:Sl} (h0:q03 m q0 (x.params)) (h1:q03 m q1 (x.lent)) (h4:q1c m q4 (x.code)) {left:Int} (z0:Lft left):q08 Tryz.prog qc4 [.agg #[Sl.v q0,Sl.v q1,vi x.result,vi x.regs,Sl.v q4],vi left] m (SzR left (qcq x) m):=by
 apply qlu
 simp -zeta only [q0a,q09,rI,rS,rB,cI,cB,cS,dI,dB,dS,gk,rg]
 intro m1
 have e0:Ext m m1:=(Ext.refl m).pushed _
 have s1:m1.size=m.size+1:=by simp [m1]
 clear_value m1
 obtain ⟨z1,z2⟩:=z0
 refine (q2i (h0.ext e0) (left:=left) ⟨by omega,by omega⟩).mono ?_
 rintro _ m2 ⟨n1,rfl,le1,sm1,x1⟩
 have e1:Ext m m2:=e0.trans x1
 refine ⟨x1.sam (by simp; omega),n1,rfl,fun h=>⟨-1,rfl,by omega,fun h=>by omega,e1⟩,fun h=>?_⟩
 simp only [decide_eq_false_iff_not] at h
 have y1:m.size+1<=m2.size:=by have:=x1.size; omega
 refine (q2i (h1.ext e1) (left:=n1) ⟨by omega,by omega⟩).mono ?_
 rintro _ m3 ⟨n2,rfl,le2,sm2,x2⟩
 have e2:Ext m m3:=e1.trans x2
 refine ⟨x2.sam (by simp; omega),n2,rfl,fun h=>⟨-1,rfl,by omega,fun h=>by omega,e2⟩,fun h=>?_⟩
 simp only [decide_eq_false_iff_not] at h
 have y2:m.size+1<=m3.size:=by have:=x2.size; omega
 refine (qmp (q1c.ext e2 h4) (left:=n2) ⟨by omega,by omega⟩).mono ?_
 rintro _ m4 ⟨n3,rfl,le3,sm3,x3⟩
 have e3:Ext m m4:=e2.trans x3
 refine ⟨x3.sam (by simp; omega),n3,rfl,fun h=>⟨-1,rfl,by omega,fun h=>by omega,e3⟩,fun h=>?_⟩
 simp only [decide_eq_false_iff_not] at h
 have y3:m.size+1<=m4.size:=by have:=x3.size; omega
 exact ⟨_,rfl,by omega,fun _=>⟨sm1 (by omega),sm2 (by omega),sm3 (by omega)⟩,e3⟩
theorem qoy {m:Mem} {s:Sl} {l:List (Proc)} (h:ProcSl m s l) {left:Int} (z0:Lft left):q08 Tryz.prog qav [Sl.v s,vi left] m (SzR left (qcs l) m):=by
 apply qk8
 have h1:=h.len
 have h2:=h.lim
 obtain ⟨h3,h4⟩:=z0
 have e:w64 (left - (s.len:Int))=left - s.len:=q07 (by omega) (by omega)
 rw [e]
 refine ⟨fun _=>⟨-1,rfl,by omega,fun h=>by omega,Ext.refl _⟩,fun h5=>?_⟩
 simp only [decide_eq_false_iff_not] at h5
 refine forSI (σ:=Int) (n:=l.length) (by omega) (fun k n m'=>0<=n/\n<=left/\Ext m m'/\∀ x ∈ l.take k,qcq x) ⟨by omega,by omega,Ext.refl _,by simp⟩ ?_
 rintro k n m1 I μ hk ⟨hn,hn2,hx,hs⟩ next
 refine ⟨fun h6=>?_,fun h6=>?_⟩
 ·simp only [decide_eq_true_eq] at h6
  obtain ⟨y,hy⟩:=q00 (l:=l) (k:=k) (by omega)
  obtain ⟨q0,q1,q4,h0,h1,h4,g0,g1,g2,g3,g4⟩:=(ProcSl.ext hx h).at' hy
  refine ⟨by omega,by omega,_,g0,_,g1,_,g2,_,g3,_,g4,(qpd h0 h1 h4 ⟨hn,by omega⟩).mono ?_⟩
  rintro _ m2 ⟨n2,rfl,le2,sm2,hx2⟩
  refine ⟨n2,rfl,fun h=>⟨-1,rfl,by omega,fun h=>by omega,hx.trans hx2⟩,fun h7=>?_⟩
  simp only [decide_eq_false_iff_not] at h7
  refine next (by omega) _ _ ⟨by omega,by omega,hx.trans hx2,fun x hxm=>?_⟩
  rw [q06 hy] at hxm
  rcases List.mem_append.1 hxm with h8 | h8
  ·exact hs x h8
  ·simp at h8; subst h8; exact sm2 (by omega)
 ·simp only [decide_eq_false_iff_not] at h6
  rw [q0b (by omega)] at hs
  exact ⟨n,rfl,hn2,fun _=>⟨by omega,hs⟩,hx⟩
theorem qpq {m:Mem} {x:Proc} {q0 q1 q4:Sl} (h0:q03 m q0 (x.params)) (h1:q03 m q1 (x.lent)) (h4:q1c m q4 (x.code)) (hs:qcq x):q08 Tryz.prog qbn [.agg #[Sl.v q0,Sl.v q1,vi x.result,vi x.regs,Sl.v q4]] m fun v m'=>∃ r0 r1 r4:Sl,v=.agg #[Sl.v r0,Sl.v r1,vi x.result,vi x.regs,Sl.v r4]/\q1v m m' [.s r0,.s r1,.i x.result,.i x.regs,.s r4] x/\Ext m m':=by
 apply qku
 simp -zeta only [q0a,q09,rI,rS,rB,cI,cB,cS,dI,dB,dS,gk,rg]
 intro m1 m2 m3
 have s1:m1.size=m.size+1:=by simp [m1]
 have s2:m2.size=m.size+2:=by simp [m2,s1]
 have s3:m3.size=m.size+3:=by simp [m3,s2]
 have x3:Ext m m3:=(((Ext.refl m).pushed _).pushed _).pushed _
 have y3:m3.size<=m3.size:=Nat.le_refl _
 clear_value m3
 refine (q2g (h0.ext x3) hs.1).mono ?_
 rintro _ m4 ⟨r0,rfl,c0,u4⟩
 have x4:Ext m m4:=x3.trans u4
 have y4:m3.size<=m4.size:=by have:=u4.size; omega
 have kp4:Kp m3.size m3 m4:=Kp.ext u4
 replace c0:=Own.base (m0:=m3) c0 y3
 refine ⟨u4.sam (by simp; omega),r0,rfl,?_⟩
 intro m5
 have x5:Ext m m5:=x4.scells (by omega) _ _
 have y5:m3.size<=m5.size:=Nat.le_trans y4 (Nat.le_of_eq (q02 _ _ _ _).symm)
 have kp5:Kp m3.size m4 m5:=Kp.box (by omega) _ _
 clear_value m5
 replace c0:=c0.keep (kp5)
 refine (q2g (h1.ext x5) hs.2.1).mono ?_
 rintro _ m6 ⟨r1,rfl,c1,u6⟩
 have x6:Ext m m6:=x5.trans u6
 have y6:m3.size<=m6.size:=by have:=u6.size; omega
 have kp6:Kp m3.size m5 m6:=Kp.ext u6
 replace c0:=c0.keep (kp6)
 replace c1:=Own.base (m0:=m3) c1 y5
 refine ⟨u6.sam (by simp; omega),r1,rfl,?_⟩
 intro m7
 have x7:Ext m m7:=x6.scells (by omega) _ _
 have y7:m3.size<=m7.size:=Nat.le_trans y6 (Nat.le_of_eq (q02 _ _ _ _).symm)
 have kp7:Kp m3.size m6 m7:=Kp.box (by omega) _ _
 clear_value m7
 replace c0:=c0.keep (kp7)
 replace c1:=c1.keep (kp7)
 intro m8
 have x8:Ext m m8:=x7.scells (by omega) _ _
 have y8:m3.size<=m8.size:=Nat.le_trans y7 (Nat.le_of_eq (q02 _ _ _ _).symm)
 have kp8:Kp m3.size m7 m8:=Kp.box (by omega) _ _
 clear_value m8
 replace c0:=c0.keep (kp8)
 replace c1:=c1.keep (kp8)
 intro m9
 have x9:Ext m m9:=x8.scells (by omega) _ _
 have y9:m3.size<=m9.size:=Nat.le_trans y8 (Nat.le_of_eq (q02 _ _ _ _).symm)
 have kp9:Kp m3.size m8 m9:=Kp.box (by omega) _ _
 clear_value m9
 replace c0:=c0.keep (kp9)
 replace c1:=c1.keep (kp9)
 refine (qmk (q1c.ext x9 h4) hs.2.2).mono ?_
 rintro _ m10 ⟨r4,rfl,c4,u10⟩
 have x10:Ext m m10:=x9.trans u10
 have y10:m3.size<=m10.size:=by have:=u10.size; omega
 have kp10:Kp m3.size m9 m10:=Kp.ext u10
 replace c0:=c0.keep (kp10)
 replace c1:=c1.keep (kp10)
 replace c4:=CpS.mono (m1:=m3) c4 (fun _ _=>q1n.mono (Kp.ext (Ext.refl _)) y9) (Kp.ext (Ext.refl _)) y9
 refine ⟨u10.sam (by simp; omega),r4,rfl,?_⟩
 intro m11
 have x11:Ext m m11:=x10.scells (by omega) _ _
 have y11:m3.size<=m11.size:=Nat.le_trans y10 (Nat.le_of_eq (q02 _ _ _ _).symm)
 have kp11:Kp m3.size m10 m11:=Kp.box (by omega) _ _
 clear_value m11
 replace c0:=c0.keep (kp11)
 replace c1:=c1.keep (kp11)
 replace c4:=CpS.mono (m1:=m3) c4 (fun _ _=>q1n.mono (kp11) (Nat.le_refl _)) (kp11) (Nat.le_refl _)
 intro m12
 have x12:Ext m m12:=x11.scells (by omega) _ _
 have kp12:Kp m3.size m11 m12:=Kp.box (by omega) _ _
 clear_value m12
 replace c0:=c0.keep (kp12)
 replace c1:=c1.keep (kp12)
 replace c4:=CpS.mono (m1:=m3) c4 (fun _ _=>q1n.mono (kp12) (Nat.le_refl _)) (kp12) (Nat.le_refl _)
 have hR:q1v m3 m12 [.s r0,.s r1,.i x.result,.i x.regs,.s r4] x:=⟨r0,r1,r4,rfl,c0,c1,c4⟩
 exact ⟨r0,r1,r4,rfl,q1v.mono (Kp.ext (Ext.refl _)) (by omega) hR,x12⟩
theorem qnx {m:Mem} {s:Sl} {l:List (Proc)} (h:ProcSl m s l) (hs:qcs l):q08 Tryz.prog qa0 [Sl.v s] m fun v m'=>∃ s',v=Sl.v s'/\q6p m m' s' l/\Ext m m':=by
 apply qiz
 have hsl:=h.len
 have hl:=hs.1
 have e0:Int.toNat (s.len:Int)=l.length:=by omega
 rw [e0]
 refine ⟨by omega,Int.le_refl _,by omega,by omega,?_⟩
 intro m1
 have x1:Ext m m1:=(Ext.refl m).pushed _
 have s1:m1.size=m.size+1:=by simp [m1]
 have k1:Blk m1 m.size q9h (zrow [.s Sl.nil,.s Sl.nil,.i (0:Int),.i (0:Int),.s Sl.nil] l.length):=Blk.push m _ _
 clear_value m1
 simp -zeta only [Sl.blk_mk,Sl.off_mk,Sl.len_mk,Nat.zero_add]
 refine forI (n:=l.length) (by omega) (fun k m'=>Ext m m'/\m1.size<=m'.size/\∃ css,Blk m' m.size q9h (css.flatten ++ zrow [.s Sl.nil,.s Sl.nil,.i (0:Int),.i (0:Int),.s Sl.nil] (l.length - css.length))/\css.length=k/\RowsOf 5 (q1v m1 m') css (l.take k)) ⟨x1,Nat.le_refl _,[],by simpa using k1,rfl,by simpa using RowsOf.nil _ _⟩ ?_
 rintro k m2 I μ hk ⟨hx,hm2,css,kk,hck,hrow⟩ next
 refine ⟨fun h6=>?_,fun h6=>?_⟩
 ·simp only [decide_eq_true_eq] at h6
  obtain ⟨y,hy⟩:=q00 (l:=l) (k:=k) (by omega)
  obtain ⟨q0,q1,q4,h0,h1,h4,g0,g1,g2,g3,g4⟩:=(ProcSl.ext hx h).at' hy
  refine ⟨by omega,by omega,_,g0,_,g1,_,g2,_,g3,_,g4,(qpq h0 h1 h4 (hs.2 y (q05 hy))).mono ?_⟩
  rintro _ m3 ⟨r0,r1,r4,rfl,hc,x3⟩
  have ek:Int.toNat (k:Int)=k:=by omega
  have hm3:=x3.size
  refine ⟨_,_,_,_,_,rfl,by omega,by omega,?_⟩
  rw [ek]
  have hfl:css.flatten.length=k*5:=by rw [q0g hrow.size,hck]
  refine ⟨(kk.ext x3).wrOk (by rw [List.length_append,hfl,qad,hck]; simp only [List.length_cons,List.length_nil]; omega),next (by omega) _ ⟨(hx.trans x3).scells (Nat.le_refl _) _ _,by rw [q02]; omega,css ++ [[.s r0,.s r1,.i y.result,.i y.regs,.s r4]],?_,by simp [hck],?_⟩⟩
  ·have:=Blk.scells (m:=m3) (o:=k*5) (r:=[.s r0,.s r1,.i y.result,.i y.regs,.s r4]) (kk.ext x3)
   have e1:=fillRow (css:=css) (zs:=[.s Sl.nil,.s Sl.nil,.i (0:Int),.i (0:Int),.s Sl.nil]) (cs:=[.s r0,.s r1,.i y.result,.i y.regs,.s r4]) (n:=l.length) hrow.size rfl (by omega)
   simp only [List.length_cons,List.length_nil,Nat.zero_add,hck] at e1
   rw [hck] at this
   rw [e1] at this
   simpa [hck] using this
  ·rw [q06 hy]
   have kp:Kp m1.size m2 (scells m3 m.size (k*5) [.s r0,.s r1,.i y.result,.i y.regs,.s r4]):=fun b hb1 hb2=>by rw [q0n _ _ _ _ (by omega),x3.same b hb2]
   refine RowsOf.snoc ⟨hrow.len,hrow.size,fun j cs x hj hx=>q1v.mono kp (Nat.le_refl _) (hrow.each j cs x hj hx)⟩ rfl (q1v.mono (m0:=m2) (m1:=m1) (m:=m3) (Kp.box (by omega) _ _) (by omega) hc)
 ·simp only [decide_eq_false_iff_not] at h6
  have:k=l.length:=by omega
  subst this
  rw [q0b (Nat.le_refl _)] at hrow
  have e2:l.length - css.length=0:=by omega
  rw [e2] at kk
  simp only [zrow,List.replicate_zero,List.flatten_nil,List.append_nil] at kk
  exact ⟨_,rfl,⟨css,⟨by simp only [Sl.len_mk]; rw [q0g hrow.size,hck],Or.inr ⟨m.size,l.length,[],rfl,Nat.le_refl _,by rw [List.append_nil]; exact kk,by rw [List.append_nil,q0g hrow.size,hck],Nat.le_refl _⟩⟩,hrow.len,hrow.size,fun j cs x hj hx=>q1v.mono (Kp.ext (Ext.refl _)) (by omega) (hrow.each j cs x hj hx)⟩,hx⟩
theorem qpc {m:Mem} {x y:Proc} {q0 q1 q4 r0 r1 r4:Sl} (h0:q03 m q0 (x.params)) (h1:q03 m q1 (x.lent)) (h4:q1c m q4 (x.code)) (k0:q03 m r0 (y.params)) (k1:q03 m r1 (y.lent)) (k4:q1c m r4 (y.code)):q0o Tryz.prog qbt [.agg #[Sl.v q0,Sl.v q1,vi x.result,vi x.regs,Sl.v q4],.agg #[Sl.v r0,Sl.v r1,vi y.result,vi y.regs,Sl.v r4]] m (x=y):=by
 apply qlq
 simp -zeta only [q0a,q09,rI,rS,rB,cI,cB,cS,dI,dB,dS,gk,rg]
 intro m1 m2
 have x2:Ext m m2:=((Ext.refl m).pushed _).pushed _
 have s1:m1.size=m.size+1:=by simp [m1]
 have s2:m2.size=m.size+2:=by simp [m2,s1]
 have y2:m.size+2<=m2.size:=by omega
 clear_value m2
 refine (q2h (h0.ext x2) (k0.ext x2)).mono ?_
 rintro _ m3 ⟨b0,rfl,hb0,u3⟩
 have x3:Ext m m3:=x2.trans u3
 have y3:m.size+2<=m3.size:=by have:=u3.size; omega
 refine ⟨u3.sam (by simp; omega),b0,rfl,fun h=>retF (fun e=>by subst e; exact nb hb0 h rfl) x3,fun h=>?_⟩
 have i0:=yb hb0 h
 clear h
 refine (q2h (h1.ext x3) (k1.ext x3)).mono ?_
 rintro _ m4 ⟨b1,rfl,hb1,u4⟩
 have x4:Ext m m4:=x3.trans u4
 have y4:m.size+2<=m4.size:=by have:=u4.size; omega
 refine ⟨u4.sam (by simp; omega),b1,rfl,fun h=>retF (fun e=>by subst e; exact nb hb1 h rfl) x4,fun h=>?_⟩
 have i1:=yb hb1 h
 clear h
 refine ⟨fun h=>retF (fun e=>by subst e; simp at h) x4,fun i2=>?_⟩
 simp only [bne_eq_false_iff_eq] at i2
 refine ⟨fun h=>retF (fun e=>by subst e; simp at h) x4,fun i3=>?_⟩
 simp only [bne_eq_false_iff_eq] at i3
 refine (qn7 (q1c.ext x4 h4) (q1c.ext x4 k4)).mono ?_
 rintro _ m5 ⟨b4,rfl,hb4,u5⟩
 have x5:Ext m m5:=x4.trans u5
 have y5:m.size+2<=m5.size:=by have:=u5.size; omega
 refine ⟨u5.sam (by simp; omega),b4,rfl,fun h=>retF (fun e=>by subst e; exact nb hb4 h rfl) x5,fun h=>?_⟩
 have i4:=yb hb4 h
 clear h
 refine retT ?_ x5
 cases x; cases y; simp only [] at i0 i1 i2 i3 i4
 simp only [i0,i1,i2,i3,i4]
theorem qno {m:Mem} {s t:Sl} {l r:List (Proc)} (hs:ProcSl m s l) (ht:ProcSl m t r):q0o Tryz.prog qa5 [Sl.v s,Sl.v t] m (l=r):=by
 apply qkg
 have hsl:=hs.len
 have htl:=ht.len
 refine ⟨fun h=>retF (fun e=>?_) (Ext.refl _),fun h=>?_⟩
 ·subst e; simp at h; omega
 ·have hlen:l.length=r.length:=by simp at h; omega
  refine forI (n:=l.length) (hsl ▸ hs.lim) (fun k m'=>Ext m m'/\l.take k=r.take k) ⟨Ext.refl _,by simp⟩ ?_
  rintro k m1 I μ hk ⟨hx,he⟩ next
  refine ⟨fun h1=>?_,fun h1=>?_⟩
  ·simp only [decide_eq_true_eq] at h1
   obtain ⟨y,hy⟩:=q00 (l:=l) (k:=k) (by omega)
   obtain ⟨z,hz⟩:=q00 (l:=r) (k:=k) (by omega)
   obtain ⟨q0,q1,q4,h0,h1,h4,g0,g1,g2,g3,g4⟩:=(ProcSl.ext hx hs).at' hy
   obtain ⟨r0,r1,r4,k0,k1,k4,f0,f1,f2,f3,f4⟩:=(ProcSl.ext hx ht).at' hz
   refine ⟨by omega,by omega,_,g0,_,g1,_,g2,_,g3,_,g4,by omega,by omega,_,f0,_,f1,_,f2,_,f3,_,f4,(qpc h0 h1 h4 k0 k1 k4).mono ?_⟩
   rintro _ m2 ⟨b,rfl,hb,x2⟩
   refine ⟨b,rfl,fun h2=>retF (fun e=>nb hb h2 ?_) (hx.trans x2),fun h2=>next (by omega) _ ⟨hx.trans x2,?_⟩⟩
   ·subst e; rw [hy] at hz; simpa using hz
   ·rw [q06 hy,q06 hz,he,yb hb h2]
  ·simp only [decide_eq_false_iff_not] at h1
   rw [q0b (by omega),q0b (by omega)] at he
   exact retT he hx
theorem qlp {m:Mem} {s:Sl} {pos:List (Nat × Nat)} (h:Walk m (.rows q55 s.len) s.blk s.off pos) (hlim:s.len<=9223372036854775807) {k:Int} (hk:0<=k/\k+pos.length<=4611686018427387904):q08 Tryz.prog q8p [Sl.v s,vi k] m (MarkR k pos m):=by
 apply qgc
 obtain ⟨ps,hpl,rfl,hp⟩:=Walk.split h
 refine forSI (σ:=Int) (n:=s.len) hlim (fun j c m'=>c=k+(ps.take j).flatten.length/\MkR m k (ps.take j).flatten m') ⟨by simp,MkR.nil (Ext.refl _) _⟩ ?_
 rintro j c m1 I μ hj ⟨rfl,G⟩ next
 refine ⟨fun h1=>?_,fun h1=>?_⟩
 ·simp only [decide_eq_true_eq] at h1
  obtain ⟨pj,hpj⟩:=q00 (l:=ps) (k:=j) (by omega)
  have hlen:(ps.take j).flatten.length+pj.length<=ps.flatten.length:=by
   have e1:(ps.take (j+1)).flatten.length=(ps.take j).flatten.length+pj.length:=by rw [q06 hpj]; simp
   have e2:ps.flatten.length=(ps.take (j+1)).flatten.length+(ps.drop (j+1)).flatten.length:=by rw [← List.length_append,← List.flatten_append,List.take_append_drop]
   omega
  have hq:∀ p ∈ (ps.take j).flatten,∃ n,gcell m p.1 p.2=some (vi n):=fun p hp'=>h.ints p (by
   rw [← List.take_append_drop j ps,List.flatten_append]; exact List.mem_append_left _ hp')
  have W0:Walk m1 (.row q55) s.blk (s.off+j*5) pj:=(hp j pj hpj).mark G hq
  have ej:Int.toNat (j:Int)=j:=by omega
  have hnext:(ps.take (j+1)).flatten=(ps.take j).flatten ++ pj:=by rw [q06 hpj]; simp
  generalize hacc:(ps.take j).flatten=acc at *
  refine ⟨by omega,by omega,?_⟩
  rw [ej]
  simp only [q55] at W0
  obtain ⟨t0,p0,d0,g0,L0,V0,rfl,W1⟩:=Walk.inv_sl W0
  refine ⟨t0,g0,(q20 V0 (k:=k+((acc).length:Int)) (by simp only [List.length_append,List.length_cons,List.length_nil] at hlen ⊢; omega)).mono ?_⟩
  rintro _ m2 ⟨rfl,O0⟩
  have e0:k+((acc).length:Int)+(p0.length:Int)=k+((acc ++ p0).length:Int):=by simp only [List.length_append]; omega
  rw [e0]
  replace W1:=W1.mark O0 V0.ints
  replace G:=G.trans O0
  refine ⟨_,rfl,?_⟩
  refine ⟨by omega,by omega,?_⟩
  obtain ⟨t1,p1,d1,g1,L1,V1,rfl,W2⟩:=Walk.inv_sl W1
  refine ⟨t1,g1,(q20 V1 (k:=k+((acc ++ p0).length:Int)) (by simp only [List.length_append,List.length_cons,List.length_nil] at hlen ⊢; omega)).mono ?_⟩
  rintro _ m3 ⟨rfl,O1⟩
  have e1:k+((acc ++ p0).length:Int)+(p1.length:Int)=k+((acc ++ p0 ++ p1).length:Int):=by simp only [List.length_append]; omega
  rw [e1]
  replace W2:=W2.mark O1 V1.ints
  replace G:=G.trans O1
  refine ⟨_,rfl,?_⟩
  refine ⟨by omega,by omega,?_⟩
  obtain ⟨v2,p2,g2,f2,rfl,W3⟩:=Walk.inv_int W2
  have e2:w64 (k+((acc ++ p0 ++ p1).length:Int)+1)=k+((acc ++ p0 ++ p1 ++ [(s.blk,s.off+j*5+2)]).length:Int):=by simp only [List.length_append,List.length_cons,List.length_nil] at hlen ⊢; rw [q07 (by omega) (by omega)]; omega
  refine ⟨fun i hi=>?_,?_⟩
  ·have:i=0:=by omega
   subst this; exact ⟨by rw [Nat.add_zero]; rw [show gcell m3 s.blk (s.off+j*5+2)=_ from g2]; rfl,f2⟩
  rw [e2]
  intro m4
  have O2:MkR m3 (k+((acc ++ p0 ++ p1).length:Int)) [(s.blk,s.off+j*5+2)] m4:=MkR.one (by rw [show gcell m3 s.blk (s.off+j*5+2)=_ from g2]; rfl) _
  replace W3:=W3.mark O2 (by simpa using ⟨v2,g2⟩)
  replace G:=G.trans O2
  clear_value m4
  refine ⟨by omega,by omega,?_⟩
  obtain ⟨v3,p3,g3,f3,rfl,W4⟩:=Walk.inv_int W3
  have e3:w64 (k+((acc ++ p0 ++ p1 ++ [(s.blk,s.off+j*5+2)]).length:Int)+1)=k+((acc ++ p0 ++ p1 ++ [(s.blk,s.off+j*5+2)] ++ [(s.blk,s.off+j*5+3)]).length:Int):=by simp only [List.length_append,List.length_cons,List.length_nil] at hlen ⊢; rw [q07 (by omega) (by omega)]; omega
  refine ⟨fun i hi=>?_,?_⟩
  ·have:i=0:=by omega
   subst this; exact ⟨by rw [Nat.add_zero]; rw [show gcell m4 s.blk (s.off+j*5+3)=_ from g3]; rfl,f3⟩
  rw [e3]
  intro m5
  have O3:MkR m4 (k+((acc ++ p0 ++ p1 ++ [(s.blk,s.off+j*5+2)]).length:Int)) [(s.blk,s.off+j*5+3)] m5:=MkR.one (by rw [show gcell m4 s.blk (s.off+j*5+3)=_ from g3]; rfl) _
  replace W4:=W4.mark O3 (by simpa using ⟨v3,g3⟩)
  replace G:=G.trans O3
  clear_value m5
  refine ⟨by omega,by omega,?_⟩
  obtain ⟨t4,p4,d4,g4,L4,V4,rfl,W5⟩:=Walk.inv_sl W4
  refine ⟨t4,g4,(qil V4 L4 (k:=k+((acc ++ p0 ++ p1 ++ [(s.blk,s.off+j*5+2)] ++ [(s.blk,s.off+j*5+3)]).length:Int)) (by simp only [List.length_append,List.length_cons,List.length_nil] at hlen ⊢; omega)).mono ?_⟩
  rintro _ m6 ⟨rfl,O4⟩
  have e4:k+((acc ++ p0 ++ p1 ++ [(s.blk,s.off+j*5+2)] ++ [(s.blk,s.off+j*5+3)]).length:Int)+(p4.length:Int)=k+((acc ++ p0 ++ p1 ++ [(s.blk,s.off+j*5+2)] ++ [(s.blk,s.off+j*5+3)] ++ p4).length:Int):=by simp only [List.length_append]; omega
  rw [e4]
  replace W5:=W5.mark O4 V4.ints
  replace G:=G.trans O4
  refine ⟨_,rfl,?_⟩
  have hz:=Walk.inv_nil W5
  subst hz
  refine next (by omega) _ _ ⟨?_,?_⟩
  ·rw [hnext]; simp
  ·rw [hnext]; simpa using G
 ·simp only [decide_eq_false_iff_not] at h1
  have:j=s.len:=by omega
  subst this
  rw [q0b (by omega)] at G
  exact ⟨by rw [q0b (by omega)],G⟩
end
section
/-! Image -/
def qtb:Row:=.sl q53 (.sl q55 (.nil))
def qa3 (x:Image):Prop:=qdj x.decls/\qcs x.procs
def q3n (m0 m:Mem) (cs:List Ce) (x:Image):Prop:=∃ q0 q1:Sl,cs=[.s q0,.s q1]/\q6j m0 m q0 (x.decls)/\q6p m0 m q1 (x.procs)
theorem q3n.mono {m0 m m1 m':Mem} (hk:Kp m0.size m m') (hb:m1.size<=m0.size) {cs:List Ce} {x:Image}:q3n m0 m cs x->q3n m1 m' cs x:=by
 rintro ⟨q0,q1,rfl,h0,h1⟩
 exact ⟨q0,q1,rfl,CpS.mono h0 (fun _ _=>q1r.mono hk hb) hk hb,CpS.mono h1 (fun _ _=>q1v.mono hk hb) hk hb⟩
theorem q3n.read {m0 m:Mem} {q0 q1:Sl} {x:Image} (h:q3n m0 m [.s q0,.s q1] x) (hs:qa3 x):ImageR m q0 q1 x:=by
 obtain ⟨q0',q1',he,h0,h1⟩:=h
 simp only [List.cons.injEq,Ce.s.injEq,and_true] at he
 obtain ⟨rfl,rfl⟩:=he
 exact ⟨q6j.read h0 hs.1,q6p.read h1 hs.2⟩
theorem q3n.walk {m0 m:Mem} {cs:List Ce} {x:Image} (h:q3n m0 m cs x) (hs:qa3 x) (b o:Nat) (hr:rowIs m b o cs) (hf:∀ i,i < cs.length->Vc.froz m b (o+i)=false) (hb:m0.size<=b):∃ pos,Walk m (.row qtb) b o pos/\(∀ p ∈ pos,m0.size<=p.1)/\pos.length<=3458771110894501888:=by
 obtain ⟨q0,q1,rfl,h0,h1⟩:=h
 have v0:q0.len<=9223372036854775807:=by have:=CpS.len (sz:=2) h0; have:=hs.1.1; omega
 obtain ⟨p0,w0,b0,l0⟩:=CpS.walk (sz:=2) (r:=q53) h0 rfl (fun cs x hx hr=>q1r.walk hr (hs.1.2 x hx))
 have g0:p0.length<=1048576*1099511627778:=Nat.le_trans l0 (Nat.mul_le_mul_right _ hs.1.1)
 have v1:q1.len<=9223372036854775807:=by have:=CpS.len (sz:=4) h1; have:=hs.2.1; omega
 obtain ⟨p1,w1,b1,l1⟩:=CpS.walk (sz:=4) (r:=q55) h1 rfl (fun cs x hx hr=>q1v.walk hr (hs.2.2 x hx))
 have g1:p1.length<=1048576*2199029547010:=Nat.le_trans l1 (Nat.mul_le_mul_right _ hs.2.1)
 refine ⟨p0 ++ (p1 ++ ([])),.sl (s:=q0) (hr 0 (.s q0) rfl) v0 w0 (.sl (s:=q1) (hr 1 (.s q1) rfl) v1 w1 (.nil _ _)),fun p hp=>?_,?_⟩
 ·simp only [List.mem_append,List.mem_cons,List.not_mem_nil,or_false] at hp
  rcases hp with hp | hp
  ·exact b0 p hp
  ·exact b1 p hp
 ·simp only [List.length_append,List.length_cons,List.length_nil]; omega
theorem qns {m:Mem} {x:Image} {q0 q1:Sl} (h0:q0q m q0 (x.decls)) (h1:ProcSl m q1 (x.procs)) {left:Int} (z0:Lft left):q08 Tryz.prog qaz [.agg #[Sl.v q0,Sl.v q1],vi left] m (SzR left (qa3 x) m):=by
 apply qiq
 simp -zeta only [q0a,q09,rI,rS,rB,cI,cB,cS,dI,dB,dS,gk,rg]
 intro m1
 have e0:Ext m m1:=(Ext.refl m).pushed _
 have s1:m1.size=m.size+1:=by simp [m1]
 clear_value m1
 obtain ⟨z1,z2⟩:=z0
 refine (qog (q0q.ext e0 h0) (left:=left) ⟨by omega,by omega⟩).mono ?_
 rintro _ m2 ⟨n1,rfl,le1,sm1,x1⟩
 have e1:Ext m m2:=e0.trans x1
 refine ⟨x1.sam (by simp; omega),n1,rfl,fun h=>⟨-1,rfl,by omega,fun h=>by omega,e1⟩,fun h=>?_⟩
 simp only [decide_eq_false_iff_not] at h
 have y1:m.size+1<=m2.size:=by have:=x1.size; omega
 refine (qoy (ProcSl.ext e1 h1) (left:=n1) ⟨by omega,by omega⟩).mono ?_
 rintro _ m3 ⟨n2,rfl,le2,sm2,x2⟩
 have e2:Ext m m3:=e1.trans x2
 refine ⟨x2.sam (by simp; omega),n2,rfl,fun h=>⟨-1,rfl,by omega,fun h=>by omega,e2⟩,fun h=>?_⟩
 simp only [decide_eq_false_iff_not] at h
 have y2:m.size+1<=m3.size:=by have:=x2.size; omega
 exact ⟨_,rfl,by omega,fun _=>⟨sm1 (by omega),sm2 (by omega)⟩,e2⟩
theorem q9r {m:Mem} {x:Image} {q0 q1:Sl} (h0:q0q m q0 (x.decls)) (h1:ProcSl m q1 (x.procs)) (hs:qa3 x):q08 Tryz.prog q2v [.agg #[Sl.v q0,Sl.v q1]] m fun v m'=>∃ r0 r1:Sl,v=.agg #[Sl.v r0,Sl.v r1]/\q3n m m' [.s r0,.s r1] x/\Ext m m':=by
 apply qj6
 simp -zeta only [q0a,q09,rI,rS,rB,cI,cB,cS,dI,dB,dS,gk,rg]
 intro m1 m2 m3
 have s1:m1.size=m.size+1:=by simp [m1]
 have s2:m2.size=m.size+2:=by simp [m2,s1]
 have s3:m3.size=m.size+3:=by simp [m3,s2]
 have x3:Ext m m3:=(((Ext.refl m).pushed _).pushed _).pushed _
 have y3:m3.size<=m3.size:=Nat.le_refl _
 clear_value m3
 refine (qoa (q0q.ext x3 h0) hs.1).mono ?_
 rintro _ m4 ⟨r0,rfl,c0,u4⟩
 have x4:Ext m m4:=x3.trans u4
 have y4:m3.size<=m4.size:=by have:=u4.size; omega
 have kp4:Kp m3.size m3 m4:=Kp.ext u4
 replace c0:=CpS.mono (m1:=m3) c0 (fun _ _=>q1r.mono (Kp.ext (Ext.refl _)) y3) (Kp.ext (Ext.refl _)) y3
 refine ⟨u4.sam (by simp; omega),r0,rfl,?_⟩
 intro m5
 have x5:Ext m m5:=x4.scells (by omega) _ _
 have y5:m3.size<=m5.size:=Nat.le_trans y4 (Nat.le_of_eq (q02 _ _ _ _).symm)
 have kp5:Kp m3.size m4 m5:=Kp.box (by omega) _ _
 clear_value m5
 replace c0:=CpS.mono (m1:=m3) c0 (fun _ _=>q1r.mono (kp5) (Nat.le_refl _)) (kp5) (Nat.le_refl _)
 refine (qnx (ProcSl.ext x5 h1) hs.2).mono ?_
 rintro _ m6 ⟨r1,rfl,c1,u6⟩
 have x6:Ext m m6:=x5.trans u6
 have y6:m3.size<=m6.size:=by have:=u6.size; omega
 have kp6:Kp m3.size m5 m6:=Kp.ext u6
 replace c0:=CpS.mono (m1:=m3) c0 (fun _ _=>q1r.mono (kp6) (Nat.le_refl _)) (kp6) (Nat.le_refl _)
 replace c1:=CpS.mono (m1:=m3) c1 (fun _ _=>q1v.mono (Kp.ext (Ext.refl _)) y5) (Kp.ext (Ext.refl _)) y5
 refine ⟨u6.sam (by simp; omega),r1,rfl,?_⟩
 intro m7
 have x7:Ext m m7:=x6.scells (by omega) _ _
 have y7:m3.size<=m7.size:=Nat.le_trans y6 (Nat.le_of_eq (q02 _ _ _ _).symm)
 have kp7:Kp m3.size m6 m7:=Kp.box (by omega) _ _
 clear_value m7
 replace c0:=CpS.mono (m1:=m3) c0 (fun _ _=>q1r.mono (kp7) (Nat.le_refl _)) (kp7) (Nat.le_refl _)
 replace c1:=CpS.mono (m1:=m3) c1 (fun _ _=>q1v.mono (kp7) (Nat.le_refl _)) (kp7) (Nat.le_refl _)
 intro m8
 have x8:Ext m m8:=x7.scells (by omega) _ _
 have kp8:Kp m3.size m7 m8:=Kp.box (by omega) _ _
 clear_value m8
 replace c0:=CpS.mono (m1:=m3) c0 (fun _ _=>q1r.mono (kp8) (Nat.le_refl _)) (kp8) (Nat.le_refl _)
 replace c1:=CpS.mono (m1:=m3) c1 (fun _ _=>q1v.mono (kp8) (Nat.le_refl _)) (kp8) (Nat.le_refl _)
 have hR:q3n m3 m8 [.s r0,.s r1] x:=⟨r0,r1,rfl,c0,c1⟩
 exact ⟨r0,r1,rfl,q3n.mono (Kp.ext (Ext.refl _)) (by omega) hR,x8⟩
theorem qoe {m:Mem} {x y:Image} {q0 q1 r0 r1:Sl} (h0:q0q m q0 (x.decls)) (h1:ProcSl m q1 (x.procs)) (k0:q0q m r0 (y.decls)) (k1:ProcSl m r1 (y.procs)):q0o Tryz.prog qat [.agg #[Sl.v q0,Sl.v q1],.agg #[Sl.v r0,Sl.v r1]] m (x=y):=by
 apply qjg
 simp -zeta only [q0a,q09,rI,rS,rB,cI,cB,cS,dI,dB,dS,gk,rg]
 intro m1 m2
 have x2:Ext m m2:=((Ext.refl m).pushed _).pushed _
 have s1:m1.size=m.size+1:=by simp [m1]
 have s2:m2.size=m.size+2:=by simp [m2,s1]
 have y2:m.size+2<=m2.size:=by omega
 clear_value m2
 refine (qo0 (q0q.ext x2 h0) (q0q.ext x2 k0)).mono ?_
 rintro _ m3 ⟨b0,rfl,hb0,u3⟩
 have x3:Ext m m3:=x2.trans u3
 have y3:m.size+2<=m3.size:=by have:=u3.size; omega
 refine ⟨u3.sam (by simp; omega),b0,rfl,fun h=>retF (fun e=>by subst e; exact nb hb0 h rfl) x3,fun h=>?_⟩
 have i0:=yb hb0 h
 clear h
 refine (qno (ProcSl.ext x3 h1) (ProcSl.ext x3 k1)).mono ?_
 rintro _ m4 ⟨b1,rfl,hb1,u4⟩
 have x4:Ext m m4:=x3.trans u4
 have y4:m.size+2<=m4.size:=by have:=u4.size; omega
 refine ⟨u4.sam (by simp; omega),b1,rfl,fun h=>retF (fun e=>by subst e; exact nb hb1 h rfl) x4,fun h=>?_⟩
 have i1:=yb hb1 h
 clear h
 refine retT ?_ x4
 cases x; cases y; simp only [] at i0 i1
 simp only [i0,i1]
end
end Go.Proofs.YtpggcodlaajceaaGreat
