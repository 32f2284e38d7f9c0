/- Part of a proof, joined by a program: Sv5 Pl1 Pl2 Pl3 Pl4 Pl5 Pl6. -/
import Derived.Test.YtpggcodlaajceaaGreatT04
set_option linter.unusedVariables false
set_option linter.unusedSimpArgs false
namespace Go.Proofs.YtpggcodlaajceaaGreat
open Go.Vc
section
structure SigsOk (ds:List Decl) (ps:List Proc):Prop where
 types:TypesOk ds
 len:1<=ps.length/\ps.length<=4
 each:∀ p ∈ ps,p.params.length<=3/\AllTy ds.length p.params/\IsTy ds.length p.result
 first:∀ p,ps[0]?=some p->p.params.length=0/\p.result=0
def FuncR (m:Mem) (cs:List Ce) (p:Proc):Prop:=∃ a,cs=[.s a,.i p.result,.i 0,.i 0,.s .nil]/\q03 m a p.params
theorem FuncR.ext {m m':Mem} (hm:Ext m m') (cs:List Ce) (c:Proc):FuncR m cs c->FuncR m' cs c:=fun ⟨f,h1,h2⟩=>⟨f,h1,h2.ext hm⟩
theorem FuncSl.at' {m:Mem} {s:Sl} {l:List Proc} (h:SlOf m 5 (FuncR m) s l) {k:Nat} {x:Proc} (hk:l[k]?=some x) :
  ∃ a,q03 m a x.params/\gcell m s.blk (s.off+k*5)=some (Sl.v a)/\gcell m s.blk (s.off+k*5+1)=some (vi x.result)/\gcell m s.blk (s.off+k*5+2)=some (vi 0)/\gcell m s.blk (s.off+k*5+3)=some (vi 0)/\gcell m s.blk (s.off+k*5+4)=some (Sl.v .nil):=by
 obtain ⟨cs,⟨a,rfl,ha⟩,hr⟩:=h.row k x hk
 exact ⟨a,ha,hr 0 (.s a) rfl,hr 1 (.i x.result) rfl,hr 2 (.i 0) rfl,hr 3 (.i 0) rfl,hr 4 (.s .nil) rfl⟩
theorem ql0 {m:Mem} {d f:Sl} {ds:List Decl} {ps:List Proc} (hd:q0q m d ds) (hf:SlOf m 5 (FuncR m) f ps) :
  q0o Tryz.prog q8p [.agg #[Sl.v d,Sl.v f]] m (SigsOk ds ps):=by
 apply qh2
 simp -zeta only [q09,q0a,rI,rS,rB,cI,cB,cS,dI,dB,dS,gk,rg]
 intro m1
 have hx0:Ext m m1:=(Ext.refl m).pushed _
 have hl:∀ b ∈ [m.size],b < m1.size:=by simp [m1]
 have hdl:=hd.len
 have hfl:=hf.len
 refine (qif (q0q.ext hx0 hd)).thenS (Ext.refl _) hl fun b m2 hb h1 h2=>⟨_,rfl,fun h3=>?_,fun h3=>?_⟩
 ·exact retF (fun hp=>nb hb h3 hp.types) (hx0.trans h1)
 have ht:=yb hb h3
 refine (q0e _ _ _ _).thenS h2 hl fun b m3 hb h4 h5=>⟨_,rfl,fun h6=>?_,fun h6=>?_⟩
 ·exact retF (fun hp=>nb hb h6 (by have:=hp.len; omega)) (hx0.trans h5)
 have hlen:=yb hb h6
 refine forI (n:=ps.length) (by omega) (fun j m'=>Ext m1 m'/\∀ p ∈ ps.take j,p.params.length<=3/\AllTy ds.length p.params/\IsTy ds.length p.result) ⟨h5,by simp⟩ ?_
 rintro j m4 I μ hj ⟨hx,hn⟩ next
 have hxm:=hx0.trans hx
 refine ⟨fun h7=>?_,fun h7=>?_⟩
 ·simp only [decide_eq_true_eq] at h7
  obtain ⟨p,hp1⟩:=q00 (l:=ps) (k:=j) (by omega)
  obtain ⟨a,ha,g0,g1,g2,g3,g4⟩:=FuncSl.at' (hf.mono hxm (FuncR.ext hxm)) hp1
  have hal:=ha.len
  refine ⟨by omega,by omega,_,g0,_,g1,_,g2,_,g3,_,g4,?_⟩
  intro m5 m6
  have hx6:Ext m4 m6:=((Ext.refl m4).pushed _).scells (Nat.le_refl _) _ _
  have hl6:∀ b ∈ [m4.size,m.size],b < m6.size:=by
   have:=hx.lt (hl m.size (by simp))
   have:=hx6.size
   simp [m6,m5,q02]
   simp [m6,m5,q02] at this
   omega
  refine ⟨fun h8=>?_,fun h8=>?_⟩
  ·simp only [decide_eq_true_eq] at h8
   exact retF (fun hp=>by have:=(hp.each p (q05 hp1)).1; omega) (hxm.trans hx6)
  simp only [decide_eq_false_iff_not] at h8
  refine (qd9 (ha.ext hx6) _).thenS (Ext.refl _) hl6 fun b m7 hb h9 h10=>⟨_,rfl,fun h11=>?_,fun h11=>?_⟩
  ·exact retF (fun hp=>nb hb h11 (hdl ▸ (hp.each p (q05 hp1)).2.1)) ((hxm.trans hx6).trans h9)
  have hty:=yb hb h11
  refine (q0e _ _ _ _).thenS h10 hl6 fun b m8 hb h12 h13=>⟨_,rfl,fun h14=>?_,fun h14=>?_⟩
  ·refine retF (fun hp=>nb hb h14 ?_) ((hxm.trans hx6).trans h13)
   rw [hdl]; exact (hp.each p (q05 hp1)).2.2
  ·refine next (by omega) _ ⟨(hx.trans hx6).trans h13,q0f hp1 hn ⟨by omega,hdl ▸ hty,?_⟩⟩
   have:=yb hb h14
   rw [hdl] at this; exact this
 ·simp only [decide_eq_false_iff_not] at h7
  have hall:=q0w (by omega) hn
  obtain ⟨p,hp1⟩:=q00 (l:=ps) (k:=0) (by omega)
  obtain ⟨a,ha,g0,g1,g2,g3,g4⟩:=FuncSl.at' (hf.mono hxm (FuncR.ext hxm)) hp1
  have hal:=ha.len
  refine ⟨by omega,by omega,_,g0,fun h8=>?_,fun h8=>?_⟩
  ·simp only [beq_iff_eq] at h8
   refine ⟨by omega,by omega,_,g1,retB ?_ hxm⟩
   simp only [beq_iff_eq]
   refine ⟨fun h9=>⟨ht,by omega,hall,fun q hq=>?_⟩,fun hp=>(hp.first p hp1).2⟩
   rw [hp1] at hq; simp at hq; subst hq
   exact ⟨by omega,h9⟩
  ·simp only [beq_eq_false_iff_ne] at h8
   exact retF (fun hp=>h8 (by have:=(hp.first p hp1).1; omega)) hxm
theorem qhx {m:Mem} {d p:Sl} {im:Image} (h:ImageR m d p im) (hp4:im.procs.length<=4) :
  q08 Tryz.prog q6h [.agg #[Sl.v d,Sl.v p]] m fun v m'=>∃ f,v=.agg #[Sl.v d,Sl.v f]/\SlOf m' 5 (FuncR m') f im.procs/\Ext m m':=by
 apply qed
 simp -zeta only [q09,q0a,rI,rS,rB,cI,cB,cS,dI,dB,dS,gk,rg]
 intro m1 m2 m3 m4 m5
 have hpl:=h.procs.len
 have hx4:Ext m m4:=(((Ext.refl m).pushed _).pushed _ |>.pushed _).pushed _
 have s3:m3.size=m.size+3:=by simp [m3,m2,m1]
 have s2:m2.size=m.size+2:=by simp [m2,m1]
 have s1:m1.size=m.size+1:=by simp [m1]
 have s5:m5.size=m.size+4:=by simp [m5,m4,q02,s3]
 have hx5:Ext m m5:=hx4.scells (by omega) _ _
 have hb5:Blk m5 m3.size q6d [.s d,.s (.mk m2.size 0 0 0)]:=Blk.scells (m:=m4) (o:=0) (r:=[.s d,.s (.mk m2.size 0 0 0)]) (Blk.push m3 _ _)
 have hx35:Ext m3 m5:=((Ext.refl m3).pushed _).scells (Nat.le_refl _) _ _
 have ho5:Own m m5 q6j 5 (.mk m2.size 0 0 0) ([]:List (List Ce)).flatten :=
  (Own.new (((Ext.refl m).pushed _).pushed _:Ext m m2) q6j 5 [] 0 (by simp):Own m m3 q6j 5 (.mk m2.size 0 0 0) []).ext hx35
 clear_value m5
 refine forI (n:=im.procs.length) (by omega) (fun k m'=>Ext m m'/\m5.size<=m'.size/\∃ r css,Blk m' m3.size q6d [.s d,.s r]/\Own m m' q6j 5 r css.flatten/\RowsOf 5 (FuncR m) css (im.procs.take k)/\r ≠ .nil/\m1.size < r.blk/\r.blk ≠ m3.size/\r.len=k)
  ⟨hx5,Nat.le_refl _,_,[],hb5,ho5,by simpa using RowsOf.nil 5 (FuncR m),by simp,by simp; omega,by simp; omega,rfl⟩ ?_
 rintro k m6 I μ hk ⟨hx,hsz,r,css,hbx,hown,hrows,hrn,hr1,hr3,hrl⟩ next
 refine ⟨fun h1=>?_,fun h1=>?_⟩
 ·simp only [decide_eq_true_eq] at h1
  obtain ⟨q,hq⟩:=q00 (l:=im.procs) (k:=k) (by omega)
  obtain ⟨a,b,c,ha,hb,hc,g0,g1,g2,g3,g4⟩:=h.procs.at' hq
  refine ⟨r,hbx.get 1,by omega,by omega,a,by simpa using hx.gcell g0,by omega,by omega,_,by simpa using hx.gcell g2,?_⟩
  intro m7
  have hx67:Ext m6 m7:=Ext.push _ _
  refine ⟨hx67.keepG (hbx.get 1),?_⟩
  have hrow:rowIs m7 m6.size 0 [.s a,.i q.result,.i 0,.i 0,.s .nil]:=(Blk.push m6 _ _).row
  have hbx7:=hbx.ext hx67
  have hs7:m7.size=m6.size+1:=by simp [m7]
  clear_value m7
  refine Own.append (zs:=[.s .nil,.i 0,.i 0,.i 0,.s .nil]) (new:=[.s a,.i q.result,.i 0,.i 0,.s .nil]) (hown.ext hx67) (hx.trans hx67) rfl hrow (by simp [hrl]; omega) ?_
  intro r' m8 h7 h8 h9 h10 h11 h12
  have h11':∀ b,b < m7.size->b ≠ r.blk->m8[b]?=m7[b]?:=fun b hb hne=>h11 b hb (fun _=>hne)
  have hr'1:m1.size < r'.blk/\r'.blk ≠ m3.size:=by
   rcases h12 with e | ⟨_,e⟩ | e
   ·rw [e] at h9; simp at h9
   ·rw [e]; constructor <;> omega
   ·rw [e]; constructor <;> omega
  have hbx8:Blk m8 m3.size q6d [.s d,.s r]:=hbx7.congr (h11' _ (by omega) (fun e=>hr3 e.symm))
  refine ⟨fun b hb=>?_,hbx8.wrOk (by simp),?_⟩
  ·simp at hb
   rcases hb with rfl | rfl
   ·exact h11' _ (by omega) (by omega)
   ·exact h11' _ (by omega) (by omega)
  intro m9
  have hs9:m9.size=m8.size:=by simp [m9,q02]
  have hb9:Blk m9 m3.size q6d [.s d,.s r']:=Blk.scells (m:=m8) (o:=1) (r:=[.s r']) hbx8
  have hne9:∀ b,b ≠ m3.size->m9[b]?=m8[b]?:=fun b hb=>q0n _ _ _ _ hb
  have hx9:Ext m m9:=h8.scells (by omega) _ _
  clear_value m9
  refine ⟨fun b hb=>?_,?_⟩
  ·simp at hb
   rcases hb with rfl | rfl
   ·exact hne9 _ (by omega)
   ·exact hne9 _ (by omega)
  refine next (by omega) _ ⟨hx9,by omega,r',css ++ [[.s a,.i q.result,.i 0,.i 0,.s .nil]],hb9,?_,?_,?_,hr'1.1,hr'1.2,by simp [h9,hrl]⟩
  ·rw [List.flatten_append]
   exact (by simpa using h7:Own m m8 q6j 5 r' (css.flatten ++ [[.s a,.i q.result,.i 0,.i 0,.s .nil]].flatten)).congr (hne9 _ hr'1.2)
  ·rw [q06 hq]
   exact hrows.snoc rfl ⟨a,rfl,ha⟩
  ·intro e
   rw [e] at hr'1; simp at hr'1
 ·simp only [decide_eq_false_iff_not] at h1
  refine ⟨d,hbx.get 0,r,hbx.get 1,?_⟩
  intro m7
  have hne:∀ b,b ≠ m1.size->m7[b]?=m6[b]?:=fun b hb=>q0n _ _ _ _ hb
  have hx7:Ext m m7:=hx.scells (by omega) _ _
  refine ⟨r,rfl,?_,hx7⟩
  rw [q0b (by omega)] at hrows
  exact (SlOf.ofOwn (hown.congr (hne _ (by omega))) hrows (by omega) (by omega)).mono (Ext.refl _) (FuncR.ext hx7)
structure ProcOk (im:Image) (p:Proc):Prop where
 lent:LentOk p.params p.lent
 regs:(p.params.length:Int)<=p.regs/\1<=p.regs/\p.regs<=2000
 len:1<=p.code.length/\p.code.length<=2000
 each:∀ (k:Nat) (i:Instr),p.code[k]?=some i->InstrOk im p k i
 last:∀ i,p.code[p.code.length - 1]?=some i->i.op=23 \/ i.op=24
theorem qkm {m:Mem} {d p:Sl} {im:Image} (h:ImageR m d p im) (ht:TypesOk im.decls) {a l c:Sl} {q:Proc} (hq:ProcC m a l c q) :
  q0o Tryz.prog q86 [.agg #[Sl.v d,Sl.v p],.agg #[Sl.v a,Sl.v l,vi q.result,vi q.regs,Sl.v c]] m (ProcOk im q):=by
 apply qgx
 simp -zeta only [q09,q0a,rI,rS,rB,cI,cB,cS,dI,dB,dS,gk,rg]
 intro m1 m2
 have hx0:Ext m m2:=((Ext.refl m).pushed _).pushed _
 have hl:∀ b ∈ [m1.size,m.size],b < m2.size:=by simp [m2,m1]; omega
 clear_value m2
 have hal:=hq.params.len
 have hcl:=hq.code.len
 refine (qlk (hq.params.ext hx0) (hq.lent.ext hx0)).thenS (Ext.refl _) hl fun b m3 hb h1 h2=>⟨_,rfl,fun h3=>?_,fun h3=>?_⟩
 ·exact retF (fun hp=>nb hb h3 hp.lent) (hx0.trans h1)
 have hlent:=yb hb h3
 refine (q0e _ _ _ _).thenS h2 hl fun b m4 hb h4 h5=>⟨_,rfl,fun h6=>?_,fun h6=>?_⟩
 ·refine retF (fun hp=>nb hb h6 ?_) (hx0.trans h5)
  have:=hp.regs
  split <;> omega
 have hregs:=yb hb h6
 refine (q0e _ _ _ _).thenS h5 hl fun b m5 hb h7 h8=>⟨_,rfl,fun h9=>?_,fun h9=>?_⟩
 ·exact retF (fun hp=>nb hb h9 (by have:=hp.len; omega)) (hx0.trans h8)
 have hlen:=yb hb h9
 have hregs':(q.params.length:Int)<=q.regs/\1<=q.regs/\q.regs<=2000:=by
  split at hregs <;> omega
 refine forI (n:=q.code.length) (by omega) (fun j m'=>Ext m2 m'/\∀ (k:Nat) (i:Instr),k < j->q.code[k]?=some i->InstrOk im q k i) ⟨h8,by simp⟩ ?_
 rintro j m6 I μ hj ⟨hx,hn⟩ next
 have hxm:=hx0.trans hx
 refine ⟨fun h10=>?_,fun h10=>?_⟩
 ·simp only [decide_eq_true_eq] at h10
  obtain ⟨i,hi⟩:=q00 (l:=q.code) (k:=j) (by omega)
  refine (qk3 (ImageR.ext hxm h) ht (hq.ext hxm) hregs'.2 hi).thenS hx hl fun b m7 hb h11 h12=>⟨_,rfl,fun h13=>?_,fun h13=>?_⟩
  ·exact retF (fun hp=>nb hb h13 (hp.each j i hi)) (hx0.trans h12)
  ·refine next (by omega) _ ⟨h12,fun k i' hk hi'=>?_⟩
   by_cases e:k=j
   ·subst e
    rw [hi] at hi'; simp at hi'; subst hi'
    exact yb hb h13
   ·exact hn k i' (by omega) hi'
 ·simp only [decide_eq_false_iff_not] at h10
  obtain ⟨i,hi⟩:=q00 (l:=q.code) (k:=q.code.length - 1) (by omega)
  obtain ⟨xa,xj,ha,hj',g0,g1,g2,g3,g4,g5⟩:=(q1c.ext hxm hq.code).at' hi
  have e1:w64 ((c.len:Int) - 1)=((q.code.length - 1:Nat):Int):=by rw [q07 (by omega) (by omega)]; omega
  rw [e1]
  have hall:∀ (k:Nat) (i:Instr),q.code[k]?=some i->InstrOk im q k i:=fun k i' hi'=>hn k i' (by have:=q04 hi'; omega) hi'
  refine ⟨by omega,by omega,_,by simpa using g0,fun h11=>?_,fun h11=>?_⟩
  ·simp only [beq_iff_eq] at h11
   refine retT ⟨hlent,hregs',by omega,hall,fun i' hi'=>?_⟩ hxm
   rw [hi] at hi'; simp at hi'; subst hi'
   exact Or.inl h11
  ·simp only [beq_eq_false_iff_ne] at h11
   refine ⟨by omega,by omega,_,by simpa using g0,retB ?_ hxm⟩
   simp only [beq_iff_eq]
   refine ⟨fun h12=>⟨hlent,hregs',by omega,hall,fun i' hi'=>?_⟩,fun hp=>?_⟩
   ·rw [hi] at hi'; simp at hi'; subst hi'
    exact Or.inr h12
   ·rcases hp.last i hi with h12 | h12
    ·exact absurd h12 h11
    ·exact h12
structure ImageOk (im:Image):Prop where
 sigs:SigsOk im.decls im.procs
 each:∀ p ∈ im.procs,ProcOk im p
theorem qi7 {m:Mem} {d p:Sl} {im:Image} (h:ImageR m d p im):q0o Tryz.prog q7m [.agg #[Sl.v d,Sl.v p]] m (ImageOk im):=by
 apply qf1
 simp -zeta only [q09,q0a,rI,rS,rB,cI,cB,cS,dI,dB,dS,gk,rg]
 intro m1
 have hx0:Ext m m1:=(Ext.refl m).pushed _
 have hl:∀ b ∈ [m.size],b < m1.size:=by simp [m1]
 clear_value m1
 have hpl:=h.procs.len
 refine ⟨fun h1=>?_,fun h1=>?_⟩
 ·simp only [decide_eq_true_eq] at h1
  exact retF (fun hp=>by have:=hp.sigs.len; omega) hx0
 simp only [decide_eq_false_iff_not] at h1
 refine (qhx (ImageR.ext hx0 h) (by omega)).thenS (Ext.refl _) hl ?_
 rintro _ m2 ⟨f,rfl,hf,h2⟩
 refine ⟨h2,d,f,rfl,?_⟩
 refine (ql0 (q0q.ext (hx0.trans h2) h.decls) hf).thenS h2 hl fun b m3 hb h3 h4=>⟨_,rfl,fun h5=>?_,fun h5=>?_⟩
 ·exact retF (fun hp=>nb hb h5 hp.sigs) (hx0.trans h4)
 have hsigs:=yb hb h5
 refine forI (n:=im.procs.length) (by omega) (fun j m'=>Ext m1 m'/\∀ q ∈ im.procs.take j,ProcOk im q) ⟨h4,by simp⟩ ?_
 rintro j m4 I μ hj ⟨hx,hn⟩ next
 have hxm:=hx0.trans hx
 refine ⟨fun h6=>?_,fun h6=>?_⟩
 ·simp only [decide_eq_true_eq] at h6
  obtain ⟨q,hq⟩:=q00 (l:=im.procs) (k:=j) (by omega)
  obtain ⟨a,b,c,ha,hb,hc,g0,g1,g2,g3,g4⟩:=(ProcSl.ext hxm h.procs).at' hq
  refine ⟨by omega,by omega,_,g0,_,g1,_,g2,_,g3,_,g4,?_⟩
  refine (qkm (ImageR.ext hxm h) hsigs.types ⟨ha,hb,hc⟩).thenS hx hl fun b m5 hb h7 h8=>⟨_,rfl,fun h9=>?_,fun h9=>?_⟩
  ·exact retF (fun hp=>nb hb h9 (hp.each q (q05 hq))) (hx0.trans h8)
  ·exact next (by omega) _ ⟨h8,q0f hq hn (yb hb h9)⟩
 ·simp only [decide_eq_false_iff_not] at h6
  exact retT ⟨hsigs,q0w (by omega) hn⟩ hxm
end
section
structure Cell where
 count:Int
 tag:Int
 fields:List Int
structure Frame where
 proc:Int
 pc:Int
 dst:Int
 regs:List Int
 own:List Int
 held:List Int
structure St where
 status:Int
 value:Int
 calls:Int
 most:Int
 out:List Int
 heap:List Cell
 frames:List Frame
def at' (l:List Int) (i:Int):Int:=l.getD i.toNat 0
def setI (l:List Int) (i:Int) (v:Int):List Int:=l.set i.toNat v
def ix (w:Int):Nat:=(w - 1000).toNat
def isInt (w:Int):Prop:=-999<=w/\w<=999
def Live (h:List Cell) (a:Nat):Prop:=∃ c,h[a]?=some c/\0 < c.count
def live (h:List Cell) (w:Int):Prop:=1000<=w/\Live h (ix w)
def isWord (h:List Cell) (w:Int):Prop:=isInt w \/ live h w
def free:Cell:=⟨0,0,[]⟩
def q01 (h:List Cell) (w:Int):Cell:=(h[ix w]?).getD free
def pat0:Proc:=⟨[],[],0,0,[]⟩
def q0y (im:Image) (n:Int):Proc:=(im.procs[n.toNat]?).getD pat0
def q0j (im:Image):Int:=(q17 im.decls).length
def occ:List Int->Nat->Int
 | [],_=>0
 | w :: ws,a=>(if w=1000+(a:Int) then 1 else 0)+occ ws a
def refs:List Cell->Nat->Int
 | [],_=>0
 | c :: h,a=>occ c.fields a+refs h a
def q0m:List Int->List Int->Nat->Int
 | r :: rs,o :: os,a=>(if r=1000+(a:Int) then o else 0)+q0m rs os a
 | _,_,_=>0
def owns:List Frame->Nat->Int
 | [],_=>0
 | f :: fs,a=>q0m f.regs f.own a+owns fs a
def holds:List Frame->Nat->Int
 | [],_=>0
 | f :: fs,a=>occ f.held a+holds fs a
def lentIn (im:Image) (x:Instr) (k:Nat):Bool:=(q0y im x.num).lent.any (fun y=>y == (k:Int))
def unlent (im:Image) (x:Instr):Nat->List Int->List Int
 | _,[]=>[]
 | k,r :: rs=>if lentIn im x k then unlent im x (k+1) rs else r :: unlent im x (k+1) rs
def q19 (im:Image) (x:Instr):Nat->List Int->List Int
 | _,[]=>[]
 | k,r :: rs=>if lentIn im x k then r :: q19 im x (k+1) rs else q19 im x (k+1) rs
def taken (im:Image) (x:Instr):List Int :=
 if x.op=15 \/ x.op=6 \/ x.op=10 \/ x.op=11 \/ x.op=18 \/ x.op=23 then x.args
 else if x.op=16 \/ x.op=17 then x.args.take 1
 else if x.op=9 \/ x.op=24 then unlent im x 0 x.args
 else []
def q0c (regs own:List Int):List Int->List Int
 | []=>own
 | r :: rs=>q0c regs (if 1000<=at' regs r then setI own r (at' own r - 1) else own) rs
def words (f:Frame) (args:List Int):List Int:=args.map (at' f.regs)
def ptrs (l:List Int):List Int:=l.filter (fun w=>decide (1000<=w))
def q41 (h:List Cell) (ws:List Int):Prop:=∀ w ∈ ws,1000<=w->(q01 h w).count+occ ws (ix w)<=999999
def MayOpen (h:List Cell) (f:Frame) (x:Instr):Prop :=
 let w:=at' f.regs (at' x.args 0)
 live h w/\ptrs (q01 h w).fields=words f (x.args.drop 1)/\((q01 h w).count=1 \/ q41 h (q01 h w).fields)/\(x.op=17->at' f.held (at' x.args 0)=0)
def MayApply (im:Image) (h:List Cell) (w:Int):Prop :=
 live h w/\0<=(q01 h w).tag - q0j im/\(q01 h w).tag - q0j im < im.procs.length /\
  (q0y im ((q01 h w).tag - q0j im)).params.length=(q01 h w).fields.length+1/\(q0y im ((q01 h w).tag - q0j im)).lent.length=0 /\
  ((q01 h w).count=1 \/ q41 h (q01 h w).fields)
def MayPlace (h:List Cell) (f:Frame) (x:Instr):Prop :=
 x.into ≠ 0->at' f.held (x.into - 1) ≠ 0->(q01 h (at' f.held (x.into - 1))).fields.length=x.args.length
def LentLive (im:Image) (h:List Cell) (f:Frame) (x:Instr):Prop:=∀ r ∈ q19 im x 0 x.args,1000<=at' f.regs r->live h (at' f.regs r)
def Zero (l:List Int):Prop:=∀ n ∈ l,n=0
structure MayRun (im:Image) (s:St) (f:Frame) (x:Instr) (own:List Int):Prop where
 nn:∀ o ∈ own,0<=o
 dst:Sets x.op->at' own x.dst<=0
 ints:(x.op=1 \/ x.op=2 \/ x.op=3 \/ x.op=4 \/ x.op=5 \/ x.op=20)->∀ r ∈ x.args,at' f.regs r < 1000
 place:x.op=6->MayPlace s.heap f x
 lent:(x.op=9 \/ x.op=24)->LentLive im s.heap f x
 zero:(x.op=24 \/ x.op=23)->Zero own/\Zero f.held
 ret:x.op=23->1 < s.frames.length \/ at' f.regs (at' x.args 0) < 1000
 apply:x.op=11->MayApply im s.heap (at' f.regs (at' x.args 0))
 dup:x.op=14->live s.heap (at' f.regs (at' x.args 0))/\(q01 s.heap (at' f.regs (at' x.args 0))).count < 999999
 drop:x.op=15->1000<=at' f.regs (at' x.args 0)
 open':(x.op=16 \/ x.op=17)->MayOpen s.heap f x
 load:x.op=19->live s.heap (at' f.regs (at' x.args 0))/\x.num < (q01 s.heap (at' f.regs (at' x.args 0))).fields.length
 switch:x.op=21->live s.heap (at' f.regs (at' x.args 0))/\(q01 s.heap (at' f.regs (at' x.args 0))).tag ∈ q1h im.decls x.num
def clamp (n:Int):Int:=if n < -999 then -999 else if 999 < n then 999 else n
def prim (op a b:Int):Int :=
 if op=1 then clamp (a+b) else if op=2 then clamp (a - b) else if op=3 then clamp (a*b) else if op=4/\a < b then 1 else 0
def q0t:List Cell->Nat
 | []=>0
 | c :: h=>if c.count=0 then 0 else q0t h+1
def place (h:List Cell) (a:Nat) (c:Cell):List Cell:=if a=h.length then h ++ [c] else h.set a c
def bump (h:List Cell) (w:Int):List Cell:=h.set (ix w) { q01 h w with count:=(q01 h w).count+1 }
def less (h:List Cell) (w:Int):List Cell:=h.set (ix w) { q01 h w with count:=(q01 h w).count - 1 }
def refer (h:List Cell):List Int->List Cell
 | []=>h
 | w :: ws=>refer (bump h w) ws
def trimN (h:List Cell):Nat->Nat
 | 0=>0
 | n+1=>match h[n]? with
  | some c=>if c.count=0 then trimN h n else n+1
  | none=>trimN h n
def trim (h:List Cell):List Cell:=h.take (trimN h h.length)
def bulk:List Cell->Nat
 | []=>0
 | c :: h=>(if 0 < c.count then c.count.toNat+c.fields.length else 0)+bulk h
theorem q3u:∀ {h:List Cell} {a:Nat} {c c':Cell},h[a]?=some c->bulk (h.set a c')+(if 0 < c.count then c.count.toNat+c.fields.length else 0)=bulk h+(if 0 < c'.count then c'.count.toNat+c'.fields.length else 0)
 | [],a,c,c',h=>by simp at h
 | d :: h,0,c,c',hc=>by simp at hc; subst hc; simp only [List.set_cons_zero,bulk]; omega
 | d :: h,a+1,c,c',hc=>by
  have:=q3u (h:=h) (a:=a) (c:=c) (c':=c') (by simpa using hc)
  simp only [List.set_cons_succ,bulk]; omega
theorem q0i {h:List Cell} {w:Int} (hl:live h w):h[ix w]?=some (q01 h w)/\0 < (q01 h w).count:=by
 obtain ⟨_,c,hc,hp⟩:=hl
 simp [q01,hc,hp]
open Classical in
noncomputable def dropS (h:List Cell) (st:List Int):List Cell :=
 match st with
 | []=>h
 | w :: r =>
  if hl:live h w then
   if h1:(q01 h w).count=1 then dropS (h.set (ix w) free) ((q01 h w).fields.reverse ++ r)
   else dropS (less h w) r
  else dropS h r
termination_by bulk h+st.length
decreasing_by
 ·obtain ⟨e,hp⟩:=q0i hl
  have:=q3u (c':=free) e
  simp only [free,if_pos hp] at this
  simp [free]
  simp at this
  omega
 ·obtain ⟨e,hp⟩:=q0i hl
  have h2:=q3u (c':={ q01 h w with count:=(q01 h w).count - 1 }) e
  simp only [if_pos hp] at h2
  rw [if_pos (by omega)] at h2
  simp [less]
  omega
 ·simp
theorem qba (h:List Cell):dropS h []=h:=by rw [dropS]
theorem qbg {h:List Cell} {w:Int} {r:List Int} (hl:live h w) (h1:(q01 h w).count=1):dropS h (w :: r)=dropS (h.set (ix w) free) ((q01 h w).fields.reverse ++ r):=by
 rw [dropS,dif_pos hl,dif_pos h1]
theorem q9c {h:List Cell} {w:Int} {r:List Int} (hl:live h w) (h1:(q01 h w).count ≠ 1):dropS h (w :: r)=dropS (less h w) r:=by
 rw [dropS,dif_pos hl,dif_neg h1]
theorem q9j {h:List Cell} {w:Int} {r:List Int} (hl:¬ live h w):dropS h (w :: r)=dropS h r:=by
 rw [dropS,dif_neg hl]
def Frame.put (f:Frame) (r w o:Int):Frame:={ f with regs:=setI f.regs r w,own:=setI f.own r o }
def q1g (w:Int):Int:=if 1000<=w then 1 else 0
def q0x (own:List Int):List Int->List Int
 | []=>own
 | r :: rs=>q0x (setI own r (at' own r+1)) rs
def q0p (n:Nat):List Int:=List.replicate n 0
def q10 (lent:List Int):Nat->List Int->List Int
 | _,[]=>[]
 | k,w :: ws=>(if lent.any (fun y=>y == (k:Int)) then 0 else q1g w) :: q10 lent (k+1) ws
def q0r (im:Image) (g dst:Int) (ws:List Int):Frame :=
 ⟨g,0,dst,ws ++ q0p ((q0y im g).regs.toNat - ws.length),q10 (q0y im g).lent 0 ws ++ q0p ((q0y im g).regs.toNat - ws.length),q0p (q0y im g).regs.toNat⟩
open Classical in
noncomputable def apart (h:List Cell) (w:Int):List Cell :=
 if (q01 h w).count=1 then trim (h.set (ix w) free) else refer (less h w) (ptrs (q01 h w).fields)
def idxOf (l:List Int) (n:Int):Nat:=l.findIdx (fun y=>y == n)
open Classical in
noncomputable def perform (im:Image) (s:St) (fs:List Frame) (f:Frame) (x:Instr) (own:List Int):St :=
 let g:Frame:={ f with own:=own,pc:=f.pc+1 }
 let a0:=at' x.args 0
 let w:=at' f.regs a0
 if x.op=0 then { s with frames:=fs ++ [g.put x.dst x.num 0] }
 else if x.op=1 \/ x.op=2 \/ x.op=3 \/ x.op=4 then { s with frames:=fs ++ [g.put x.dst (prim x.op w (at' f.regs (at' x.args 1))) 0] }
 else if x.op=5 then { s with out:=s.out ++ [w],frames:=fs ++ [g.put x.dst w 0] }
 else if x.op=6 then
  if x.into ≠ 0/\at' f.held (x.into - 1) ≠ 0 then
   { s with heap:=s.heap.set (ix (at' f.held (x.into - 1))) ⟨1,x.num,words f x.args⟩,frames:=fs ++ [{ g with held:=setI f.held (x.into - 1) 0 }.put x.dst (at' f.held (x.into - 1)) 1] }
  else { s with heap:=place s.heap (q0t s.heap) ⟨1,x.num,words f x.args⟩,frames:=fs ++ [g.put x.dst (1000+q0t s.heap) 1] }
 else if x.op=10 then { s with heap:=place s.heap (q0t s.heap) ⟨1,q0j im+x.num,words f x.args⟩,frames:=fs ++ [g.put x.dst (1000+q0t s.heap) 1] }
 else if x.op=14 then { s with heap:=bump s.heap w,frames:=fs ++ [{ g with own:=setI own a0 (at' own a0+1) }] }
 else if x.op=15 then { s with heap:=trim (dropS s.heap [w]),frames:=fs ++ [g] }
 else if x.op=16 \/ x.op=17 then
  let g':={ g with own:=q0x own (x.args.drop 1) }
  if (q01 s.heap w).count=1/\x.op=17 then { s with heap:=s.heap.set (ix w) ⟨-1,0,q0p (q01 s.heap w).fields.length⟩,frames:=fs ++ [{ g' with held:=setI f.held a0 w }] }
  else { s with heap:=apart s.heap w,frames:=fs ++ [g'] }
 else if x.op=18 then { s with frames:=fs ++ [g.put x.dst w (q1g w)] }
 else if x.op=19 then { s with frames:=fs ++ [g.put x.dst (at' (q01 s.heap w).fields x.num) 0] }
 else if x.op=20 then { s with frames:=fs ++ [{ g with pc:=if w=0 then x.num else f.pc+1 }] }
 else if x.op=21 then { s with frames:=fs ++ [{ g with pc:=at' x.jumps (idxOf (q1h im.decls x.num) (q01 s.heap w).tag) }] }
 else if x.op=22 then { s with frames:=fs ++ [{ g with pc:=x.num }] }
 else if x.op=9 then { s with calls:=s.calls+1,frames:=fs ++ [g,q0r im x.num x.dst (words f x.args)] }
 else if x.op=24 then { s with calls:=s.calls+1,frames:=fs ++ [q0r im x.num f.dst (words f x.args)] }
 else if x.op=11 then
  { s with calls:=s.calls+1,heap:=apart s.heap w,frames:=fs ++ [g,q0r im ((q01 s.heap w).tag - q0j im) x.dst ((q01 s.heap w).fields ++ [at' f.regs (at' x.args 1)])] }
 else -- 23
  match fs.getLast? with
  | none=>{ s with status:=0,value:=w,frames:=[] }
  | some p=>{ s with frames:=fs.dropLast ++ [p.put f.dst w (q1g w)] }
def isCall (op:Int):Prop:=op=9 \/ op=11 \/ op=24
instance (op:Int):Decidable (isCall op):=by unfold isCall; infer_instance
def q14 (im:Image) (f:Frame):Instr:=((q0y im f.proc).code[f.pc.toNat]?).getD ⟨0,0,0,0,[],[]⟩
open Classical in
noncomputable def step (im:Image) (s:St):St :=
 if s.status ≠ 3 then s else
 match s.frames.getLast? with
 | none=>s
 | some f =>
  if isCall (q14 im f).op/\s.calls=s.most then { s with status:=1 }
  else if MayRun im s f (q14 im f) (q0c f.regs f.own (taken im (q14 im f))) then
   perform im s s.frames.dropLast f (q14 im f) (q0c f.regs f.own (taken im (q14 im f)))
  else { s with status:=2 }
end
section
theorem q4g:∀ (l r:List Int) (a:Nat),occ (l ++ r) a=occ l a+occ r a
 | [],r,a=>by simp [occ]
 | w :: l,r,a=>by simp only [List.cons_append,occ,q4g l r a]; omega
theorem qeq:∀ (l:List Int) (a:Nat),occ l.reverse a=occ l a
 | [],a=>rfl
 | w :: l,a=>by simp only [List.reverse_cons,q4g,qeq l a,occ]; omega
theorem occ_nn:∀ (l:List Int) (a:Nat),0<=occ l a
 | [],a=>by simp [occ]
 | w :: l,a=>by have:=occ_nn l a; simp only [occ]; split <;> omega
theorem q59:∀ {l:List Int} {a:Nat},(1000+(a:Int)) ∉ l->occ l a=0
 | [],a,_=>rfl
 | w :: l,a,h=>by
  simp only [List.mem_cons,not_or] at h
  simp only [occ,q59 h.2]
  rw [if_neg (fun e=>h.1 e.symm)]; rfl
theorem q8w:∀ {l:List Int} {a:Nat},(1000+(a:Int)) ∈ l->1<=occ l a
 | [],a,h=>by simp at h
 | w :: l,a,h=>by
  simp only [occ]
  rcases List.mem_cons.1 h with rfl | h
  ·rw [if_pos rfl]; have:=occ_nn l a; omega
  ·have:=q8w h; split <;> omega
theorem qp8 {l:List Int} {a:Nat} (h:0 < occ l a):(1000+(a:Int)) ∈ l :=
 Classical.byContradiction fun hn=>by rw [q59 hn] at h; omega
theorem qt0 (n:Nat) (a:Nat):occ (q0p n) a=0:=q59 fun h=>by have:=List.eq_of_mem_replicate h; omega
theorem qaj:∀ (l:List Int) (a:Nat),occ (ptrs l) a=occ l a
 | [],a=>rfl
 | w :: l,a=>by
  have:=qaj l a
  simp only [ptrs] at this ⊢
  rw [List.filter_cons]
  split
  ·simp only [occ,this]
  ·rename_i h
   simp only [occ,this]
   rw [if_neg (fun e=>h (by simp; omega))]; omega
theorem q3k:∀ (l:List Int) (a:Nat),occ l a<=l.length
 | [],a=>by simp [occ]
 | w :: l,a=>by have:=q3k l a; simp only [occ,List.length_cons]; split <;> omega
theorem qb1:∀ (h k:List Cell) (a:Nat),refs (h ++ k) a=refs h a+refs k a
 | [],k,a=>by simp [refs]
 | c :: h,k,a=>by simp only [List.cons_append,refs,qb1 h k a]; omega
theorem q60:∀ (h:List Cell) (a:Nat),0<=refs h a
 | [],a=>by simp [refs]
 | c :: h,a=>by have:=q60 h a; have:=occ_nn c.fields a; simp only [refs]; omega
theorem qda:∀ {h:List Cell} {a:Nat} {c:Cell} (c':Cell) (_:h[a]?=some c) (b:Nat),refs (h.set a c') b=refs h b - occ c.fields b+occ c'.fields b
 | [],a,c,c',h,b=>by simp at h
 | d :: h,0,c,c',hc,b=>by simp at hc; subst hc; simp only [List.set_cons_zero,refs]; omega
 | d :: h,a+1,c,c',hc,b=>by
  have:=qda (h:=h) (a:=a) c' (by simpa using hc) b
  simp only [List.set_cons_succ,refs,this]; omega
theorem qra:∀ {h:List Cell} {a:Nat},0 < refs h a->∃ c ∈ h,(1000+(a:Int)) ∈ c.fields
 | [],a,h=>by simp [refs] at h
 | c :: h,a,hp=>by
  simp only [refs] at hp
  rcases Classical.em (0 < occ c.fields a) with h1 | h1
  ·exact ⟨c,List.mem_cons_self,qp8 h1⟩
  ·obtain ⟨d,hd,hw⟩:=qra (h:=h) (a:=a) (by have:=occ_nn c.fields a; omega)
   exact ⟨d,List.mem_cons_of_mem _ hd,hw⟩
theorem qs8:∀ {h:List Cell} {c:Cell} (_:c ∈ h) (a:Nat),occ c.fields a<=refs h a
 | [],c,hc,a=>by simp at hc
 | d :: h,c,hc,a=>by
  simp only [refs]
  rcases List.mem_cons.1 hc with rfl | hc
  ·have:=q60 h a; omega
  ·have:=qs8 hc a; have:=occ_nn d.fields a; omega
structure CellOk (h:List Cell) (c:Cell):Prop where
 fl:c.fields.length<=3
 lo:-1<=c.count
 hi:c.count<=999999
 dead:c.count < 1->c.tag=0/\(∀ w ∈ c.fields,w=0)/\(c.count=0->c.fields=[])
 alive:0 < c.count->(∀ w ∈ c.fields,isWord h w)/\0<=c.tag/\c.tag<=99
def Acyc (h:List Cell):Prop:=∃ rank:Nat->Nat,∀ (i:Nat) (c:Cell),h[i]?=some c->∀ w ∈ c.fields,1000<=w->rank (ix w) < rank i
structure HInv (h:List Cell) (e:Nat->Int):Prop where
 cell:∀ c ∈ h,CellOk h c
 acyc:Acyc h
 ex:∀ (a:Nat) (c:Cell),h[a]?=some c->0 < c.count->c.count=refs h a+e a
 nn:∀ a,0<=e a
 lv:∀ a,0 < e a->Live h a
theorem HInv.congr {h:List Cell} {e e':Nat->Int} (hi:HInv h e) (he:∀ b,e' b=e b):HInv h e':=by
 have:e'=e:=funext he
 rw [this]; exact hi
theorem ix_ptr (a:Nat):ix (1000+(a:Int))=a:=by unfold ix; omega
theorem ptr_ix {w:Int} (h:1000<=w):1000+((ix w:Nat):Int)=w:=by unfold ix; omega
theorem ix_inj {v w:Int} (hv:1000<=v) (hw:1000<=w) (h:ix v=ix w):v=w:=by rw [← ptr_ix hv,← ptr_ix hw,h]
theorem HInv.field {h:List Cell} {e:Nat->Int} (hi:HInv h e) {c:Cell} (hc:c ∈ h) {w:Int} (hw:w ∈ c.fields) (hp:1000<=w):live h w:=by
 have ho:=hi.cell c hc
 rcases Classical.em (0 < c.count) with h1 | h1
 ·rcases (ho.alive h1).1 w hw with h2 | h2
  ·have:=h2.2; omega
  ·exact h2
 ·have:=(ho.dead (by omega)).2.1 w hw; omega
theorem HInv.norefs {h:List Cell} {e:Nat->Int} (hi:HInv h e) {a:Nat} (hl:¬ Live h a):refs h a=0:=by
 rcases Classical.em (0 < refs h a) with h1 | h1
 ·obtain ⟨c,hc,hw⟩:=qra h1
  have:=(hi.field hc hw (by omega)).2
  rw [ix_ptr] at this; exact absurd this hl
 ·have:=q60 h a; omega
theorem HInv.noext {h:List Cell} {e:Nat->Int} (hi:HInv h e) {a:Nat} (hl:¬ Live h a):e a=0:=by
 have:=hi.nn a
 rcases Classical.em (0 < e a) with hp | hp
 ·exact absurd (hi.lv a hp) hl
 ·omega
theorem q2a {h:List Cell} {a b:Nat} {c:Cell} (hab:b ≠ a):(h.set a c)[b]?=h[b]?:=by rw [List.getElem?_set_ne (fun e=>hab e.symm)]
theorem q1e {h:List Cell} {a:Nat} {c d:Cell} (hd:h[a]?=some d):(h.set a c)[a]?=some c:=by
 rw [List.getElem?_set_self (q04 hd)]
theorem Live.ne {h:List Cell} {a b:Nat} {c:Cell} (hab:b ≠ a):Live (h.set a c) b ↔ Live h b:=by unfold Live; rw [q2a hab]
theorem Live.self {h:List Cell} {a:Nat} {c d:Cell} (hd:h[a]?=some d):Live (h.set a c) a ↔ 0 < c.count:=by
 unfold Live; rw [q1e hd]; simp
theorem isWord.mono {h h':List Cell} {w:Int} (hw:isWord h w) (hl:1000<=w->Live h (ix w)->Live h' (ix w)):isWord h' w:=by
 rcases hw with h1 | h1
 ·exact Or.inl h1
 ·exact Or.inr ⟨h1.1,hl h1.1 h1.2⟩
theorem CellOk.mono {h h':List Cell} {c:Cell} (hc:CellOk h c) (hl:0 < c.count->∀ w ∈ c.fields,1000<=w->Live h (ix w)->Live h' (ix w)):CellOk h' c :=
 ⟨hc.fl,hc.lo,hc.hi,hc.dead,fun hp=>⟨fun w hw=>((hc.alive hp).1 w hw).mono (hl hp w hw),(hc.alive hp).2⟩⟩
theorem q5z {h:List Cell} {a:Nat} {c x:Cell} (hx:x ∈ h.set a c):x=c \/ ∃ b,b ≠ a/\h[b]?=some x:=by
 obtain ⟨b,hb⟩:=List.mem_iff_getElem?.1 hx
 by_cases e:b=a
 ·subst e
  rw [List.getElem?_set_self'] at hb
  cases h1:h[b]? with
  | none=>simp [h1] at hb
  | some d=>simp [h1] at hb; exact Or.inl hb.symm
 ·rw [q2a e] at hb; exact Or.inr ⟨b,e,hb⟩
theorem HInv.recount {h:List Cell} {e e':Nat->Int} (hi:HInv h e) {a:Nat} {c:Cell} (hc:h[a]?=some c) (hp:0 < c.count) {n:Int} (hn:0 < n) (hm:n<=999999)
  (he:∀ b,e' b=e b+if b=a then n - c.count else 0) (h0:0<=e' a):HInv (h.set a { c with count:=n }) e':=by
 have hlive:∀ b,Live (h.set a { c with count:=n }) b ↔ Live h b:=fun b=>by
  by_cases hab:b=a
  ·subst hab; rw [Live.self hc]; exact ⟨fun _=>⟨c,hc,hp⟩,fun _=>hn⟩
  ·exact Live.ne hab
 have hr:∀ b,refs (h.set a { c with count:=n }) b=refs h b:=fun b=>by rw [qda _ hc]; simp only []; omega
 refine ⟨fun x hx=>?_,?_,fun b d hd hdp=>?_,fun b=>?_,fun b hb=>?_⟩
 ·rcases q5z hx with rfl | ⟨b,_,hb⟩
  ·have ho:=hi.cell c (q05 hc)
   exact ⟨ho.fl,by simp only []; omega,hm,fun h1=>by simp only [] at h1; omega,fun _=>⟨fun w hw=>((ho.alive hp).1 w hw).mono fun _ hl=>(hlive _).2 hl,(ho.alive hp).2⟩⟩
  ·exact (hi.cell x (q05 hb)).mono fun _ w _ _ hl=>(hlive _).2 hl
 ·obtain ⟨rank,hrk⟩:=hi.acyc
  refine ⟨rank,fun i d hd w hw hp=>?_⟩
  by_cases hia:i=a
  ·subst hia; rw [q1e hc] at hd; simp at hd; subst hd; exact hrk i c hc w hw hp
  ·rw [q2a hia] at hd; exact hrk i d hd w hw hp
 ·rw [hr,he]
  by_cases hab:b=a
  ·subst hab; rw [q1e hc] at hd; simp at hd; subst hd
   have:=hi.ex b c hc hp
   simp only [if_pos]; omega
  ·rw [q2a hab] at hd
   have:=hi.ex b d hd hdp
   rw [if_neg hab]; omega
 ·by_cases hab:b=a
  ·subst hab; exact h0
  ·rw [he,if_neg hab]; have:=hi.nn b; omega
 ·rw [hlive]
  by_cases hab:b=a
  ·subst hab; exact ⟨c,hc,hp⟩
  ·rw [he,if_neg hab] at hb; exact hi.lv b (by omega)
theorem HInv.gone {h:List Cell} {e e':Nat->Int} (hi:HInv h e) {a:Nat} {c:Cell} (hc:h[a]?=some c) (h1:c.count=1) (hea:0 < e a) {c':Cell} (hlo:-1<=c'.count) (hlt:c'.count < 1) (htag:c'.tag=0)
  (hz:∀ w ∈ c'.fields,w=0) (hl3:c'.fields.length<=3) (hfr:c'.count=0->c'.fields=[])
  (he:∀ b,e' b=e b - (if b=a then 1 else 0)+occ c.fields b):HInv (h.set a c') e':=by
 have hx:=hi.ex a c hc (by omega)
 have hrn:=q60 h a
 have hra:refs h a=0:=by omega
 have hea1:e a=1:=by omega
 have hself:∀ x ∈ h,(1000+(a:Int)) ∉ x.fields:=fun x hx hw=>by
  have:=qs8 hx a; have:=q8w hw; omega
 have hoa:occ c.fields a=0:=q59 (hself c (q05 hc))
 have hoz:∀ b,occ c'.fields b=0:=fun b=>q59 fun hw=>by have:=hz _ hw; omega
 have hlive:∀ b,b ≠ a->Live h b->Live (h.set a c') b:=fun b hab hl=>(Live.ne hab).2 hl
 have hne:∀ x ∈ h,∀ w ∈ x.fields,1000<=w->ix w ≠ a:=fun x hx w hw hp e2=>by
  have:=ptr_ix hp; rw [e2] at this; rw [← this] at hw; exact hself x hx hw
 refine ⟨fun x hx=>?_,?_,fun b d hd hdp=>?_,fun b=>?_,fun b hb=>?_⟩
 ·rcases q5z hx with rfl | ⟨b,_,hb⟩
  ·exact ⟨hl3,hlo,by omega,fun _=>⟨htag,hz,hfr⟩,fun hp=>by omega⟩
  ·exact (hi.cell x (q05 hb)).mono fun _ w hw hp hl=>hlive _ (hne x (q05 hb) w hw hp) hl
 ·obtain ⟨rank,hrk⟩:=hi.acyc
  refine ⟨rank,fun i d hd w hw hp=>?_⟩
  by_cases hia:i=a
  ·subst hia; rw [q1e hc] at hd; simp at hd; subst hd; have:=hz w hw; omega
  ·rw [q2a hia] at hd; exact hrk i d hd w hw hp
 ·rw [qda _ hc,hoz,he]
  by_cases hab:b=a
  ·subst hab; rw [q1e hc] at hd; simp at hd; subst hd; omega
  ·rw [q2a hab] at hd
   have:=hi.ex b d hd hdp
   rw [if_neg hab]; omega
 ·rw [he]
  have:=hi.nn b
  have:=occ_nn c.fields b
  split
  ·rename_i hab; subst hab; omega
  ·omega
 ·rw [he] at hb
  by_cases hab:b=a
  ·subst hab; rw [if_pos rfl] at hb; omega
  ·rw [if_neg hab] at hb
   refine hlive b hab ?_
   rcases Classical.em (0 < e b) with h2 | h2
   ·exact hi.lv b h2
   ·have:=hi.nn b
    have hw:=qp8 (l:=c.fields) (a:=b) (by omega)
    have:=(hi.field (q05 hc) hw (by omega)).2
    rwa [ix_ptr] at this
theorem HInv.make {h h':List Cell} {e e':Nat->Int} (hi:HInv h e) {a:Nat} {t:Int} {fs:List Int} (hnl:¬ Live h a) (hself:h'[a]?=some ⟨1,t,fs⟩) (hoth:∀ b,b ≠ a->h'[b]?=h[b]?)
  (hr:∀ b,refs h' b=refs h b+occ fs b) (hw:∀ w ∈ fs,isWord h w) (hl3:fs.length<=3) (ht:0<=t/\t<=99) (hle:∀ b,occ fs b<=e b)
  (he:∀ b,e' b=e b - occ fs b+if b=a then 1 else 0):HInv h' e':=by
 have hlive:∀ b,Live h b->Live h' b:=fun b hl=>by
  by_cases hab:b=a
  ·subst hab; exact absurd hl hnl
  ·unfold Live; rw [hoth b hab]; exact hl
 have hea:=hi.noext hnl
 have hra:=hi.norefs hnl
 have hoa:occ fs a=0:=by have:=occ_nn fs a; have:=hle a; omega
 refine ⟨fun x hx=>?_,?_,fun b d hd hdp=>?_,fun b=>?_,fun b hb=>?_⟩
 ·obtain ⟨b,hb⟩:=List.mem_iff_getElem?.1 hx
  by_cases hab:b=a
  ·subst hab; rw [hself] at hb; simp at hb; subst hb
   exact ⟨hl3,by simp,by simp,fun h1=>by simp at h1,fun _=>⟨fun w hw1=>(hw w hw1).mono fun _ hl=>hlive _ hl,ht⟩⟩
  ·rw [hoth b hab] at hb
   exact (hi.cell x (q05 hb)).mono fun _ w _ _ hl=>hlive _ hl
 ·obtain ⟨rank,hrk⟩:=hi.acyc
  refine ⟨fun i=>if i=a then (fs.map fun w=>rank (ix w)).sum+1 else rank i,fun i d hd w hw1 hp=>?_⟩
  have hwa:ix w ≠ a:=fun e2=>by
   have hlw:live h w:=by
    by_cases hia:i=a
    ·subst hia; rw [hself] at hd; simp at hd; subst hd
     rcases hw w hw1 with h2 | h2
     ·have:=h2.2; omega
     ·exact h2
    ·rw [hoth i hia] at hd; exact hi.field (q05 hd) hw1 hp
   exact hnl (e2 ▸ hlw.2)
  simp only [if_neg hwa]
  by_cases hia:i=a
  ·subst hia; rw [hself] at hd; simp at hd; subst hd
   rw [if_pos rfl]
   have:∀ (l:List Int),w ∈ l->rank (ix w)<=(l.map fun w=>rank (ix w)).sum:=by
    intro l hl
    induction l with
    | nil=>simp at hl
    | cons y l ih =>
     simp only [List.map_cons,List.sum_cons]
     rcases List.mem_cons.1 hl with rfl | hl
     ·omega
     ·have:=ih hl; omega
   have:=this fs hw1; omega
  ·rw [if_neg hia]; rw [hoth i hia] at hd; exact hrk i d hd w hw1 hp
 ·rw [hr,he]
  by_cases hab:b=a
  ·subst hab; rw [hself] at hd; simp at hd; subst hd
   rw [if_pos rfl]; simp only []; omega
  ·rw [hoth b hab] at hd
   have:=hi.ex b d hd hdp
   rw [if_neg hab]; omega
 ·rw [he]; have:=hle b; split <;> omega
 ·rw [he] at hb
  by_cases hab:b=a
  ·subst hab; exact ⟨_,hself,by simp⟩
  ·rw [if_neg hab] at hb
   exact hlive b (hi.lv b (by have:=occ_nn fs b; omega))
theorem HInv.dropS:∀ (n:Nat) (h:List Cell) (st:List Int) (e:Nat->Int),bulk h+st.length<=n->HInv h (fun b=>e b+occ st b)->(∀ b,0<=e b)->HInv (dropS h st) e
 | n,h,[],e,_,hi,_=>by rw [qba]; exact hi.congr fun b=>by simp [occ]
 | n,h,w :: r,e,hn,hi,h0=>by
  rcases Classical.em (live h w) with hl | hl
  ·obtain ⟨hc,hp⟩:=q0i hl
   have hwx:=ptr_ix hl.1
   have hoc:∀ b,occ (w :: r) b=(if b=ix w then 1 else 0)+occ r b:=fun b=>by
    simp only [occ]
    congr 1
    by_cases hb:b=ix w
    ·subst hb; rw [if_pos hwx.symm,if_pos rfl]
    ·rw [if_neg hb,if_neg (fun e2=>hb (by rw [e2,ix_ptr]))]
   have hbk:=q3u (c':=free) hc
   by_cases h1:(q01 h w).count=1
   ·rw [qbg hl h1]
    simp only [if_pos hp,free] at hbk
    simp at hbk
    cases n with
    | zero=>simp at hn
    | succ n =>
    refine HInv.dropS n _ _ e ?_ (HInv.gone hi hc h1 ?_ (by decide) (by decide) rfl (by simp [free]) (by simp [free]) (fun _=>rfl) fun b=>?_) h0
    ·simp [free] at hn ⊢; omega
    ·simp only [hoc,if_pos]; have:=h0 (ix w); have:=occ_nn r (ix w); omega
    ·simp only [hoc,q4g,qeq]; omega
   ·rw [q9c hl h1]
    have hbk2:=q3u (c':={ q01 h w with count:=(q01 h w).count - 1 }) hc
    simp only [if_pos hp] at hbk2
    rw [if_pos (by omega)] at hbk2
    have hm:=(hi.cell _ (q05 hc)).hi
    cases n with
    | zero=>simp at hn
    | succ n =>
    refine HInv.dropS n _ _ e ?_ (HInv.recount hi hc hp (by omega) (by omega) (fun b=>?_) ?_) h0
    ·simp only [List.length_cons] at hn; simp only [less]; omega
    ·simp only [hoc]; split <;> omega
    ·have:=h0 (ix w); have:=occ_nn r (ix w); omega
  ·rw [q9j hl]
   cases n with
   | zero=>simp at hn
   | succ n =>
   refine HInv.dropS n _ _ e (by simp at hn; omega) (hi.congr fun b=>?_) h0
   simp only [occ]
   rw [if_neg]
   ·omega
   ·intro e2
    have:=hi.lv b (by simp only [occ,if_pos e2]; have:=h0 b; have:=occ_nn r b; omega)
    exact hl ⟨by omega,by rw [e2,ix_ptr]; exact this⟩
theorem q8q (h:List Cell):∀ n,trimN h n<=n
 | 0=>Nat.le_refl _
 | n+1=>by
  simp only [trimN]
  have:=q8q h n
  split
  ·split <;> omega
  ·omega
theorem q9a (h:List Cell):∀ (n k:Nat) (c:Cell),trimN h n<=k->k < n->h[k]?=some c->c.count=0
 | 0,k,c,_,hk,_=>by omega
 | n+1,k,c,h1,h2,hc=>by
  simp only [trimN] at h1
  by_cases hk:k=n
  ·subst hk
   rw [hc] at h1
   simp only [] at h1
   split at h1
   ·assumption
   ·omega
  ·split at h1
   ·split at h1
    ·exact q9a h n k c h1 (by omega) hc
    ·omega
   ·exact q9a h n k c h1 (by omega) hc
theorem qot (h:List Cell):∀ (n:Nat) (c:Cell),n<=h.length->h[trimN h n - 1]?=some c->0 < trimN h n->c.count ≠ 0
 | 0,c,_,_,hp=>by simp [trimN] at hp
 | n+1,c,hn,hc,hp=>by
  simp only [trimN] at hc hp
  obtain ⟨d,hd⟩:=q00 (l:=h) (k:=n) (by omega)
  rw [hd] at hc hp
  simp only [] at hc hp
  split at hc
  ·rename_i h0
   rw [if_pos h0] at hp
   exact qot h n c (by omega) hc hp
  ·rename_i h0
   simp at hc; rw [hd] at hc; simp at hc; subst hc; exact h0
def Trimmed (h:List Cell):Prop:=∀ c,h[h.length - 1]?=some c->c.count ≠ 0
theorem qiq (h:List Cell):Trimmed (trim h):=by
 intro c hc
 have hle:=q8q h h.length
 unfold trim at hc
 rw [List.length_take,Nat.min_eq_left hle] at hc
 rcases Nat.eq_zero_or_pos (trimN h h.length) with h0 | h0
 ·rw [h0] at hc; simp at hc
 ·rw [List.getElem?_take_of_lt (by omega)] at hc
  exact qot h _ c (Nat.le_refl _) hc h0
theorem qq2:∀ {h:List Cell},(∀ c ∈ h,c.fields=[])->∀ a,refs h a=0
 | [],_,a=>rfl
 | c :: h,hf,a=>by simp only [refs,hf c List.mem_cons_self,occ,qq2 (fun d hd=>hf d (List.mem_cons_of_mem _ hd)) a]; rfl
theorem HInv.trim {h:List Cell} {e:Nat->Int} (hi:HInv h e):HInv (trim h) e:=by
 have hle:=q8q h h.length
 have hget:∀ (b:Nat) (c:Cell),h[b]?=some c->c.count ≠ 0->b < trimN h h.length:=fun b c hc h0 =>
  Classical.byContradiction fun hn=>h0 (q9a h h.length b c (by omega) (q04 hc) hc)
 have hsub:∀ (b:Nat) (c:Cell),(Go.Proofs.YtpggcodlaajceaaGreat.trim h)[b]?=some c->h[b]?=some c:=fun b c hc=>by
  unfold Go.Proofs.YtpggcodlaajceaaGreat.trim at hc
  have:=q04 hc
  rw [List.length_take] at this
  rwa [List.getElem?_take_of_lt (by omega)] at hc
 have hlive:∀ b,Live h b->Live (Go.Proofs.YtpggcodlaajceaaGreat.trim h) b:=fun b ⟨c,hc,hp⟩=>⟨c,by
  unfold Go.Proofs.YtpggcodlaajceaaGreat.trim; rw [List.getElem?_take_of_lt (hget b c hc (by omega))]; exact hc,hp⟩
 have hr:∀ b,refs (Go.Proofs.YtpggcodlaajceaaGreat.trim h) b=refs h b:=fun b=>by
  have e1:h=Go.Proofs.YtpggcodlaajceaaGreat.trim h ++ h.drop (trimN h h.length):=(List.take_append_drop _ _).symm
  have e2:refs (h.drop (trimN h h.length)) b=0:=qq2 (fun c hc=>by
   obtain ⟨k,hk⟩:=List.mem_iff_getElem?.1 hc
   rw [List.getElem?_drop] at hk
   have h0:=q9a h h.length _ c (by omega) (q04 hk) hk
   exact ((hi.cell c (q05 hk)).dead (by omega)).2.2 h0) b
  have e3:=congrArg (fun l=>refs l b) e1
  simp only [qb1,e2] at e3
  omega
 refine ⟨fun c hc=>?_,?_,fun a c hc hp=>?_,hi.nn,fun a ha=>hlive a (hi.lv a ha)⟩
 ·obtain ⟨b,hb⟩:=List.mem_iff_getElem?.1 hc
  exact (hi.cell c (q05 (hsub b c hb))).mono fun _ w _ _ hl=>hlive _ hl
 ·obtain ⟨rank,hrk⟩:=hi.acyc
  exact ⟨rank,fun i c hc=>hrk i c (hsub i c hc)⟩
 ·rw [hr]; exact hi.ex a c (hsub a c hc) hp
end
section
theorem at_get {l:List Int} {i:Int} (h0:0<=i) (h1:i < l.length):l[i.toNat]?=some (at' l i):=by
 obtain ⟨x,hx⟩:=q00 (l:=l) (k:=i.toNat) (by omega)
 simp [at',hx]
theorem at_of {l:List Int} {k:Nat} {x:Int} (h:l[k]?=some x):at' l k=x:=by simp [at',h]
theorem at_of' {l:List Int} {i x:Int} (h:l[i.toNat]?=some x):at' l i=x:=by simp [at',h]
theorem q18 {l:List Int} {i:Int} (h0:0<=i) (h1:i < l.length):at' l i ∈ l:=List.mem_of_getElem? (at_get h0 h1)
theorem q2z (l:List Int) (i v:Int):(setI l i v).length=l.length:=by simp [setI]
theorem q5u {l:List Int} {i v x:Int} (h:x ∈ setI l i v):x=v \/ x ∈ l:=by
 rcases List.mem_or_eq_of_mem_set h with h | h
 ·exact Or.inr h
 ·exact Or.inl h
theorem qcq (l:List Int) (i v:Int) (k:Nat):(setI l i v)[k]?=if k=i.toNat/\k < l.length then some v else l[k]?:=by
 unfold setI
 by_cases h:k=i.toNat
 ·subst h
  by_cases h2:i.toNat < l.length
  ·rw [List.getElem?_set_self h2,if_pos ⟨rfl,h2⟩]
  ·rw [if_neg (by omega),List.set_eq_of_length_le (by omega)]
 ·rw [if_neg (by omega),List.getElem?_set_ne (fun e=>h e.symm)]
theorem qu5 {l:List Int} {i v:Int} (h0:0<=i) (h1:i < l.length) (j:Int) (hj:0<=j):at' (setI l i v) j=if j=i then v else at' l j:=by
 unfold at'
 rw [List.getD_eq_getElem?_getD,List.getD_eq_getElem?_getD,qcq]
 by_cases h:j=i
 ·subst h; rw [if_pos rfl,if_pos ⟨rfl,by omega⟩]; rfl
 ·rw [if_neg h,if_neg (by omega)]
theorem qje:∀ (regs own:List Int) (k:Nat) (w o w0 o0:Int) (a:Nat),regs[k]?=some w0->own[k]?=some o0 ->
  q0m (regs.set k w) (own.set k o) a=q0m regs own a - (if w0=1000+(a:Int) then o0 else 0)+(if w=1000+(a:Int) then o else 0)
 | [],own,k,w,o,w0,o0,a,h1,h2=>by simp at h1
 | r :: rs,[],k,w,o,w0,o0,a,h1,h2=>by simp at h2
 | r :: rs,q :: os,0,w,o,w0,o0,a,h1,h2=>by
  simp at h1 h2; subst h1; subst h2
  simp only [List.set_cons_zero,q0m]; omega
 | r :: rs,q :: os,k+1,w,o,w0,o0,a,h1,h2=>by
  have:=qje rs os k w o w0 o0 a (by simpa using h1) (by simpa using h2)
  simp only [List.set_cons_succ,q0m,this]; omega
theorem qtm {l:List Int} {k:Nat} {x:Int} (h:l[k]?=some x):l.set k x=l:=by
 apply List.ext_getElem?
 intro i
 by_cases hi:k=i
 ·subst hi; rw [List.getElem?_set_self (q04 h),h]
 ·rw [List.getElem?_set_ne hi]
theorem qj6 {regs own:List Int} {r:Int} (h0:0<=r) (h1:r < regs.length) (h2:r < own.length) (o:Int) (a:Nat) :
  q0m regs (setI own r o) a=q0m regs own a+(if at' regs r=1000+(a:Int) then o - at' own r else 0):=by
 have e1:=at_get h0 h1
 have:=qje regs own r.toNat (at' regs r) o _ _ a e1 (at_get h0 h2)
 rw [qtm e1] at this
 rw [setI,this]; split <;> omega
theorem qpz {regs own:List Int} {r:Int} (h0:0<=r) (h1:r < regs.length) (h2:r < own.length) (hz:at' own r=0) (w o:Int) (a:Nat) :
  q0m (setI regs r w) (setI own r o) a=q0m regs own a+(if w=1000+(a:Int) then o else 0):=by
 have:=qje regs own r.toNat w o _ _ a (at_get h0 h1) (at_get h0 h2)
 rw [setI,setI,this,hz]; split <;> omega
theorem q82:∀ {regs own:List Int},(∀ o ∈ own,0<=o)->∀ a,0<=q0m regs own a
 | [],own,h,a=>by cases own <;> simp [q0m]
 | r :: rs,[],h,a=>by simp [q0m]
 | r :: rs,o :: os,h,a=>by
  have:=q82 (regs:=rs) (own:=os) (fun x hx=>h x (List.mem_cons_of_mem _ hx)) a
  have:=h o List.mem_cons_self
  simp only [q0m]; split <;> omega
theorem q8z:∀ {regs own:List Int},Zero own->∀ a,q0m regs own a=0
 | [],own,h,a=>by cases own <;> simp [q0m]
 | r :: rs,[],h,a=>by simp [q0m]
 | r :: rs,o :: os,h,a=>by
  have:=q8z (regs:=rs) (own:=os) (fun x hx=>h x (List.mem_cons_of_mem _ hx)) a
  have:=h o List.mem_cons_self
  simp only [q0m,this]; split <;> omega
theorem qin:∀ {r1 o1:List Int} (r2 o2:List Int),r1.length=o1.length->∀ a,q0m (r1 ++ r2) (o1 ++ o2) a=q0m r1 o1 a+q0m r2 o2 a
 | [],[],r2,o2,_,a=>by simp [q0m]
 | [],_ :: _,_,_,h,_=>by simp at h
 | _ :: _,[],_,_,h,_=>by simp at h
 | r :: rs,o :: os,r2,o2,h,a=>by
  have:=qin (r1:=rs) (o1:=os) r2 o2 (by simpa using h) a
  simp only [List.cons_append,q0m,this]; omega
theorem qmt:∀ {regs own:List Int} {k:Nat} {w o:Int} (_:∀ o ∈ own,0<=o) (_:regs[k]?=some w) (_:own[k]?=some o) {a:Nat} (_:w=1000+(a:Int)),o<=q0m regs own a
 | [],_,_,_,_,_,h1,_,_,_=>by simp at h1
 | _ :: _,[],_,_,_,_,_,h2,_,_=>by simp at h2
 | r :: rs,q :: os,0,w,o,hn,h1,h2,a,ha=>by
  simp at h1 h2; subst h1; subst h2
  have:=q82 (regs:=rs) (own:=os) (fun x hx=>hn x (List.mem_cons_of_mem _ hx)) a
  simp only [q0m,if_pos ha]; omega
 | r :: rs,q :: os,k+1,w,o,hn,h1,h2,a,ha=>by
  have:=qmt (regs:=rs) (own:=os) (k:=k) (fun x hx=>hn x (List.mem_cons_of_mem _ hx)) (by simpa using h1) (by simpa using h2) ha
  have:=hn q List.mem_cons_self
  simp only [q0m]; split <;> omega
theorem q1u:∀ (l r:List Frame) (a:Nat),owns (l ++ r) a=owns l a+owns r a
 | [],r,a=>by simp [owns]
 | f :: l,r,a=>by simp only [List.cons_append,owns,q1u l r a]; omega
theorem q3w (f:Frame) (a:Nat):owns [f] a=q0m f.regs f.own a:=by simp [owns]
theorem q1d:∀ (l r:List Frame) (a:Nat),holds (l ++ r) a=holds l a+holds r a
 | [],r,a=>by simp [holds]
 | f :: l,r,a=>by simp only [List.cons_append,holds,q1d l r a]; omega
theorem q2j (f:Frame) (a:Nat):holds [f] a=occ f.held a:=by simp [holds]
theorem qah:∀ (l:List Frame) (a:Nat),0<=holds l a
 | [],a=>by simp [holds]
 | f :: l,a=>by have:=qah l a; have:=occ_nn f.held a; simp only [holds]; omega
theorem q3d (regs:List Int):∀ (rs own:List Int),(q0c regs own rs).length=own.length
 | [],own=>rfl
 | r :: rs,own=>by simp only [q0c]; rw [q3d regs rs]; split <;> simp [q2z]
theorem qcu {regs:List Int}:∀ (rs own:List Int),(∀ r ∈ rs,0<=r/\r < regs.length)->regs.length=own.length->∀ a,q0m regs (q0c regs own rs) a=q0m regs own a - occ (rs.map (at' regs)) a
 | [],own,_,_,a=>by simp [q0c,occ]
 | r :: rs,own,h,hl,a=>by
  have hr:=h r List.mem_cons_self
  have ih:=fun own hl=>qcu (regs:=regs) rs own (fun x hx=>h x (List.mem_cons_of_mem _ hx)) hl a
  simp only [q0c,List.map_cons,occ]
  by_cases hp:1000<=at' regs r
  ·rw [if_pos hp,ih _ (by rw [q2z]; exact hl),qj6 hr.1 hr.2 (by omega)]
   split <;> omega
  ·rw [if_neg hp,ih _ hl,if_neg (by omega)]; omega
theorem q40 {regs:List Int}:∀ (rs own:List Int) (k:Nat) (o:Int),(q0c regs own rs)[k]?=some o->∃ q,own[k]?=some q/\o<=q
 | [],own,k,o,h=>⟨o,h,Int.le_refl _⟩
 | r :: rs,own,k,o,h=>by
  simp only [q0c] at h
  obtain ⟨q,hq,hle⟩:=q40 rs _ k o h
  split at hq
  ·rw [qcq] at hq
   split at hq
   ·rename_i hk
    obtain ⟨y,hy⟩:=q00 hk.2
    have e:at' own r=y:=by rw [at',List.getD_eq_getElem?_getD,← hk.1,hy]; rfl
    simp at hq
    exact ⟨y,hy,by omega⟩
   ·exact ⟨q,hq,hle⟩
  ·exact ⟨q,hq,hle⟩
theorem q4h:∀ (rs own:List Int),(q0x own rs).length=own.length
 | [],own=>rfl
 | r :: rs,own=>by simp only [q0x]; rw [q4h rs,q2z]
theorem qi6 {regs:List Int}:∀ (rs own:List Int),(∀ r ∈ rs,0<=r/\r < regs.length)->regs.length=own.length->∀ a,q0m regs (q0x own rs) a=q0m regs own a+occ (rs.map (at' regs)) a
 | [],own,_,_,a=>by simp [q0x,occ]
 | r :: rs,own,h,hl,a=>by
  have hr:=h r List.mem_cons_self
  simp only [q0x,List.map_cons,occ]
  rw [qi6 (regs:=regs) rs _ (fun x hx=>h x (List.mem_cons_of_mem _ hx)) (by rw [q2z]; exact hl) a,qj6 hr.1 hr.2 (by omega)]
  split <;> omega
theorem qnu {regs:List Int}:∀ (rs own:List Int),(∀ r ∈ rs,0<=r/\r < own.length/\1000<=at' regs r) ->
  (∀ (k:Nat) (o w:Int),own[k]?=some o->regs[k]?=some w->0<=o/\(0 < o->1000<=w))->∀ (k:Nat) (o w:Int),(q0x own rs)[k]?=some o->regs[k]?=some w->0<=o/\(0 < o->1000<=w)
 | [],own,_,h,k,o,w,ho,hw=>h k o w ho hw
 | r :: rs,own,hr,h,k,o,w,ho,hw=>by
  refine qnu (regs:=regs) rs (setI own r (at' own r+1)) (fun x hx=>by rw [q2z]; exact hr x (List.mem_cons_of_mem _ hx)) (fun k o w ho hw=>?_) k o w ho hw
  rw [qcq] at ho
  split at ho
  ·rename_i hk
   have h1:=hr r List.mem_cons_self
   have e:at' regs r=w:=by rw [at',List.getD_eq_getElem?_getD,← hk.1,hw]; rfl
   have h2:=h k (at' own r) w (by rw [hk.1]; exact at_get h1.1 h1.2.1) hw
   simp at ho
   exact ⟨by omega,fun _=>by omega⟩
  ·exact h k o w ho hw
def Kept (h:List Cell) (a:Nat):Prop:=∃ c,h[a]?=some c/\c.count < 0
structure FrameOk (im:Image) (f:Frame):Prop where
 proc:0<=f.proc/\f.proc < im.procs.length
 pc:0<=f.pc/\f.pc < (q0y im f.proc).code.length
 lr:(f.regs.length:Int)=(q0y im f.proc).regs
 lo:(f.own.length:Int)=(q0y im f.proc).regs
 lh:(f.held.length:Int)=(q0y im f.proc).regs
 reg:∀ w ∈ f.regs,isInt w \/ 1000<=w
 own:∀ (k:Nat) (o w:Int),f.own[k]?=some o->f.regs[k]?=some w->0<=o/\(0 < o->1000<=w)
 held:∀ w ∈ f.held,w=0 \/ 1000<=w
structure StateOk (im:Image) (s:St):Prop where
 image:ImageOk im
 status:0<=s.status/\s.status<=3
 done:s.status=0 ↔ s.frames=[]
 value:isInt s.value
 value0:s.value ≠ 0->s.status=0
 most:0<=s.most/\s.most<=40
 calls:0<=s.calls/\s.calls<=s.most
 depth:(s.frames.length:Int)<=s.calls+1
 out:∀ n ∈ s.out,isInt n
 heap:HInv s.heap (owns s.frames)
 trimmed:Trimmed s.heap
 frames:∀ f ∈ s.frames,FrameOk im f
 first:∀ f,s.frames[0]?=some f->f.dst=0
 chain:∀ (k:Nat) (f g:Frame),s.frames[k]?=some f->s.frames[k+1]?=some g->0<=g.dst/\g.dst < f.own.length/\at' f.own g.dst=0
 kept:∀ a,Kept s.heap a->holds s.frames a=1
 unkept:∀ a,¬ Kept s.heap a->holds s.frames a=0
theorem FrameOk.ownNN {im:Image} {f:Frame} (h:FrameOk im f):∀ o ∈ f.own,0<=o:=fun o ho=>by
 obtain ⟨k,hk⟩:=List.mem_iff_getElem?.1 ho
 have h1:=q04 hk
 have:=h.lo
 have:=h.lr
 obtain ⟨w,hw⟩:=q00 (l:=f.regs) (k:=k) (by omega)
 exact (h.own k o w hk hw).1
theorem qkc {im:Image}:∀ {fs:List Frame},(∀ f ∈ fs,FrameOk im f)->∀ a,0<=owns fs a
 | [],_,a=>by simp [owns]
 | f :: fs,h,a=>by
  have:=qkc (fun g hg=>h g (List.mem_cons_of_mem _ hg)) a
  have:=q82 (regs:=f.regs) (h f List.mem_cons_self).ownNN a
  simp only [owns]; omega
theorem StateOk.split {im:Image} {s:St} (h:StateOk im s) (hr:s.status=3):∃ fs f,s.frames=fs ++ [f]:=by
 have:s.frames ≠ []:=fun e=>by have:=h.done.2 e; omega
 exact ⟨s.frames.dropLast,s.frames.getLast this,(List.dropLast_concat_getLast this).symm⟩
theorem FrameOk.instr {im:Image} {f:Frame} (hi:ImageOk im) (h:FrameOk im f):∃ p,im.procs[f.proc.toNat]?=some p/\q0y im f.proc=p/\ProcOk im p/\p.code[f.pc.toNat]?=some (q14 im f)/\InstrOk im p f.pc.toNat (q14 im f):=by
 obtain ⟨p,hp⟩:=q00 (l:=im.procs) (k:=f.proc.toNat) (by have:=h.proc; omega)
 have e:q0y im f.proc=p:=by simp [q0y,hp]
 have hpo:=hi.each p (q05 hp)
 have hpc:=h.pc
 rw [e] at hpc
 obtain ⟨i,hi'⟩:=q00 (l:=p.code) (k:=f.pc.toNat) (by omega)
 have e2:q14 im f=i:=by simp [q14,e,hi']
 exact ⟨p,hp,e,hpo,e2 ▸ hi',e2 ▸ hpo.each _ _ hi'⟩
theorem StateOk.top {im:Image} {s:St} (h:StateOk im s) (hr:s.status=3) {fs:List Frame} {f g:Frame} (hf:s.frames=fs ++ [f]) {hp:List Cell} {out:List Int} (hg:FrameOk im g) (hd:g.dst=f.dst)
  (hh:HInv hp (owns (fs ++ [g]))) (ht:Trimmed hp) (hk:∀ a,Kept hp a->holds (fs ++ [g]) a=1) (hu:∀ a,¬ Kept hp a->holds (fs ++ [g]) a=0) (ho:∀ n ∈ out,isInt n) {calls:Int} (hc:s.calls<=calls/\calls<=s.most) :
  StateOk im { s with heap:=hp,out:=out,calls:=calls,frames:=fs ++ [g] }:=by
 have hc0:=h.calls
 have hdep:=h.depth
 rw [hf] at hdep
 refine ⟨h.image,h.status,⟨fun e=>by simp at e; omega,fun e=>by simp at e⟩,h.value,h.value0,h.most,⟨by simp only []; omega,hc.2⟩,by simp at hdep ⊢; omega,ho,hh,ht,fun q hq=>?_,fun q hq=>?_,fun k p q hp hq=>?_,hk,hu⟩
 ·rcases List.mem_append.1 hq with hq | hq
  ·exact h.frames q (by rw [hf]; exact List.mem_append_left _ hq)
  ·simp at hq; subst hq; exact hg
 ·have hfirst:=h.first
  rw [hf] at hfirst
  cases fs with
  | nil=>simp at hq; subst hq; rw [hd]; exact hfirst f (by simp)
  | cons y ys=>simp at hq; subst hq; exact hfirst y (by simp)
 ·have hch:=h.chain k
  rw [hf] at hch
  simp only [] at hp hq
  have hkl:=q04 hq
  simp at hkl
  rw [List.getElem?_append_left (by omega)] at hp
  rcases Nat.lt_or_ge (k+1) fs.length with h1 | h1
  ·rw [List.getElem?_append_left h1] at hq
   exact hch p q (by rw [List.getElem?_append_left (by omega)]; exact hp) (by rw [List.getElem?_append_left h1]; exact hq)
  ·rw [List.getElem?_append_right h1] at hq
   have e:k+1 - fs.length=0:=by omega
   rw [e] at hq; simp at hq; subst hq
   rw [hd]
   exact hch p f (by rw [List.getElem?_append_left (by omega)]; exact hp) (by rw [List.getElem?_append_right h1,e]; rfl)
end
section
theorem Kept.ne {h:List Cell} {a b:Nat} {c:Cell} (hab:b ≠ a):Kept (h.set a c) b ↔ Kept h b:=by unfold Kept; rw [q2a hab]
theorem Kept.self {h:List Cell} {a:Nat} {c d:Cell} (hd:h[a]?=some d):Kept (h.set a c) a ↔ c.count < 0:=by unfold Kept; rw [q1e hd]; simp
theorem Kept.set {h:List Cell} {a:Nat} {c d:Cell} (hd:h[a]?=some d) (h0:0<=d.count) (h1:0<=c.count) (b:Nat):Kept (h.set a c) b ↔ Kept h b:=by
 by_cases hab:b=a
 ·subst hab
  rw [Kept.self hd]
  refine ⟨fun h2=>by omega,fun ⟨e,he,hc⟩=>?_⟩
  rw [hd] at he; simp at he; subst he; omega
 ·exact Kept.ne hab
theorem Kept.unlive {h:List Cell} {a:Nat} (hk:Kept h a):¬ Live h a:=fun ⟨c,hc,hp⟩=>by
 obtain ⟨d,hd,hn⟩:=hk
 rw [hc] at hd; simp at hd; subst hd; omega
theorem Kept.less {h:List Cell} {w:Int} (hl:live h w) (b:Nat):Kept (less h w) b ↔ Kept h b:=by
 obtain ⟨hc,hp⟩:=q0i hl
 exact Kept.set hc (by omega) (by simp only []; omega) b
theorem Kept.bump {h:List Cell} {w:Int} (hl:live h w) (b:Nat):Kept (bump h w) b ↔ Kept h b:=by
 obtain ⟨hc,hp⟩:=q0i hl
 exact Kept.set hc (by omega) (by simp only []; omega) b
theorem Kept.gone {h:List Cell} {w:Int} (hl:live h w) (b:Nat):Kept (h.set (ix w) free) b ↔ Kept h b:=by
 obtain ⟨hc,hp⟩:=q0i hl
 exact Kept.set hc (by omega) (by simp [free]) b
theorem Kept.dropS:∀ (n:Nat) (h:List Cell) (st:List Int),bulk h+st.length<=n->∀ b,Kept (dropS h st) b ↔ Kept h b
 | n,h,[],_,b=>by rw [qba]
 | 0,h,w :: r,hn,b=>by simp at hn
 | n+1,h,w :: r,hn,b=>by
  simp only [List.length_cons] at hn
  rcases Classical.em (live h w) with hl | hl
  ·obtain ⟨hc,hp⟩:=q0i hl
   by_cases h1:(q01 h w).count=1
   ·have hbk:=q3u (c':=free) hc
    simp only [if_pos hp,free] at hbk
    simp at hbk
    rw [qbg hl h1,Kept.dropS n _ _ (by simp [free]; omega) b,Kept.gone hl]
   ·have hbk2:=q3u (c':={ q01 h w with count:=(q01 h w).count - 1 }) hc
    simp only [if_pos hp] at hbk2
    rw [if_pos (by omega)] at hbk2
    rw [q9c hl h1,Kept.dropS n _ _ (by simp only [Go.Proofs.YtpggcodlaajceaaGreat.less]; omega) b,Kept.less hl]
  ·rw [q9j hl,Kept.dropS n _ _ (by omega) b]
theorem Kept.trim {h:List Cell} (b:Nat):Kept (trim h) b ↔ Kept h b:=by
 have hle:=q8q h h.length
 unfold Kept Go.Proofs.YtpggcodlaajceaaGreat.trim
 constructor
 ·rintro ⟨c,hc,hn⟩
  have:=q04 hc
  rw [List.length_take] at this
  rw [List.getElem?_take_of_lt (by omega)] at hc
  exact ⟨c,hc,hn⟩
 ·rintro ⟨c,hc,hn⟩
  refine ⟨c,?_,hn⟩
  rw [List.getElem?_take_of_lt]
  ·exact hc
  ·exact Classical.byContradiction fun h1=>by have:=q9a h h.length b c (by omega) (q04 hc) hc; omega
theorem HInv.bump {h:List Cell} {e e':Nat->Int} (hi:HInv h e) {w:Int} (hl:live h w) (hm:(q01 h w).count < 999999) (he:∀ b,e' b=e b+if b=ix w then 1 else 0):HInv (bump h w) e':=by
 obtain ⟨hc,hp⟩:=q0i hl
 refine hi.recount hc hp (by omega) (by omega) (fun b=>?_) ?_
 ·rw [he]; split <;> omega
 ·rw [he]; have:=hi.nn (ix w); split <;> omega
theorem qs3 {h:List Cell} {w:Int} (hl:live h w) {v:Int} (hv:1000<=v):(q01 (bump h w) v).count=(q01 h v).count+(if v=w then 1 else 0):=by
 obtain ⟨hc,hp⟩:=q0i hl
 unfold bump
 by_cases e:v=w
 ·subst e
  rw [if_pos rfl]
  conv=>lhs; unfold q01
  rw [q1e hc]; rfl
 ·rw [if_neg e]
  conv=>lhs; unfold q01
  rw [q2a (fun e2=>e (ix_inj hv hl.1 e2))]; simp [q01]
theorem Live.bump {h:List Cell} {w:Int} (hl:live h w) (b:Nat):Live (bump h w) b ↔ Live h b:=by
 obtain ⟨hc,hp⟩:=q0i hl
 by_cases e:b=ix w
 ·subst e
  unfold Go.Proofs.YtpggcodlaajceaaGreat.bump
  rw [Live.self hc]
  exact ⟨fun _=>hl.2,fun _=>by simp only []; omega⟩
 ·exact Live.ne e
theorem q2p {w:Int} (hw:1000<=w) (r:List Int) (b:Nat):occ (w :: r) b=(if b=ix w then 1 else 0)+occ r b:=by
 simp only [occ]
 congr 1
 have hwx:=ptr_ix hw
 by_cases hb:b=ix w
 ·subst hb; rw [if_pos hwx.symm,if_pos rfl]
 ·rw [if_neg hb,if_neg (fun e2=>hb (by rw [e2,ix_ptr]))]
theorem HInv.refer:∀ (ws:List Int) (h:List Cell) (e e':Nat->Int),HInv h e->(∀ w ∈ ws,live h w/\(q01 h w).count+occ ws (ix w)<=999999)->(∀ b,e' b=e b+occ ws b)->HInv (refer h ws) e'/\(∀ b,Kept (refer h ws) b ↔ Kept h b)/\(refer h ws).length=h.length
 | [],h,e,e',hi,_,he=>⟨hi.congr fun b=>by rw [he]; simp [occ],fun _=>Iff.rfl,rfl⟩
 | w :: ws,h,e,e',hi,hw,he=>by
  obtain ⟨hl,hm⟩:=hw w List.mem_cons_self
  rw [q2p hl.1,if_pos rfl] at hm
  have:=occ_nn ws (ix w)
  obtain ⟨h1,h2,h3⟩:=HInv.refer ws (Go.Proofs.YtpggcodlaajceaaGreat.bump h w) (fun b=>e b+if b=ix w then 1 else 0) e' (hi.bump hl (by omega) fun b=>rfl) (fun v hv=>by
   obtain ⟨hlv,hmv⟩:=hw v (List.mem_cons_of_mem _ hv)
   refine ⟨⟨hlv.1,(Live.bump hl _).2 hlv.2⟩,?_⟩
   rw [qs3 hl hlv.1]
   rw [q2p hl.1] at hmv
   split
   ·rename_i e2; subst e2; rw [if_pos rfl] at hmv; omega
   ·rename_i e2; rw [if_neg (fun e3=>e2 (ix_inj hlv.1 hl.1 e3))] at hmv; omega) (fun b=>by rw [he,q2p hl.1]; omega)
  refine ⟨h1,fun b=>by rw [Go.Proofs.YtpggcodlaajceaaGreat.refer,h2,Kept.bump hl],by rw [Go.Proofs.YtpggcodlaajceaaGreat.refer,h3]; simp [Go.Proofs.YtpggcodlaajceaaGreat.bump]⟩
theorem q48 {l:List Int} {w:Int}:w ∈ ptrs l ↔ w ∈ l/\1000<=w:=by simp [ptrs]
theorem HInv.apart {h:List Cell} {e e':Nat->Int} (hi:HInv h e) {w:Int} (hl:live h w) (hea:0 < e (ix w)) (hfit:(q01 h w).count=1 \/ q41 h (q01 h w).fields)
  (he:∀ b,e' b=e b - (if b=ix w then 1 else 0)+occ (q01 h w).fields b) (ht:Trimmed h):HInv (apart h w) e'/\(∀ b,Kept (apart h w) b ↔ Kept h b)/\Trimmed (apart h w):=by
 obtain ⟨hc,hp⟩:=q0i hl
 unfold Go.Proofs.YtpggcodlaajceaaGreat.apart
 by_cases h1:(q01 h w).count=1
 ·rw [if_pos h1]
  exact ⟨(hi.gone hc h1 hea (c':=free) (by decide) (by decide) rfl (by simp [free]) (by simp [free]) (fun _=>rfl) he).trim,fun b=>by rw [Kept.trim,Kept.gone hl],qiq _⟩
 ·rw [if_neg h1]
  have hfit:q41 h (q01 h w).fields:=by rcases hfit with h2 | h2; exact absurd h2 h1; exact h2
  have hmx:=(hi.cell _ (q05 hc)).hi
  have hless:HInv (Go.Proofs.YtpggcodlaajceaaGreat.less h w) (fun b=>e b - if b=ix w then 1 else 0):=hi.recount hc hp (by omega) (by omega) (fun b=>by split <;> omega) (by simp; omega)
  have hlive:∀ b,Live h b->Live (Go.Proofs.YtpggcodlaajceaaGreat.less h w) b:=fun b hb=>by
   by_cases e2:b=ix w
   ·subst e2; unfold Go.Proofs.YtpggcodlaajceaaGreat.less; rw [Live.self hc]; simp only []; omega
   ·exact (Live.ne e2).2 hb
  obtain ⟨h2,h3,h4⟩:=HInv.refer (ptrs (q01 h w).fields) _ _ e' hless (fun v hv=>by
   obtain ⟨hv1,hv2⟩:=q48.1 hv
   have hlv:=hi.field (q05 hc) hv1 hv2
   refine ⟨⟨hlv.1,hlive _ hlv.2⟩,?_⟩
   have:=hfit v hv1 hv2
   rw [qaj]
   have hle:(q01 (Go.Proofs.YtpggcodlaajceaaGreat.less h w) v).count<=(q01 h v).count:=by
    by_cases e2:ix v=ix w
    ·have hvw:=ix_inj hv2 hl.1 e2
     subst hvw
     unfold Go.Proofs.YtpggcodlaajceaaGreat.less
     conv=>lhs; unfold q01
     rw [q1e hc]; show (q01 h v).count - 1<=(q01 h v).count; omega
    ·unfold Go.Proofs.YtpggcodlaajceaaGreat.less
     conv=>lhs; unfold q01
     rw [q2a e2]; exact Int.le_refl _
   omega) (fun b=>by rw [he,qaj])
  refine ⟨h2,fun b=>by rw [h3,Kept.less hl],fun c hcl=>?_⟩
  -- the last cell is not free: a live cell stays live,others stay as they are
  intro h0
  rw [h4] at hcl
  have hln:(Go.Proofs.YtpggcodlaajceaaGreat.less h w).length=h.length:=by simp [Go.Proofs.YtpggcodlaajceaaGreat.less]
  rw [hln] at hcl
  have hb:=q04 hcl
  rw [h4,hln] at hb
  obtain ⟨d,hd⟩:=q00 (l:=h) (k:=h.length - 1) (by omega)
  have hd0:=ht d hd
  have hcd:=hi.cell d (q05 hd)
  have hlo:=hcd.lo
  rcases Classical.em (0 < d.count) with hpd | hpd
  ·have hLr:∀ (ws:List Int) (g:List Cell),(∀ v ∈ ws,live g v)->∀ b,Live g b->Live (Go.Proofs.YtpggcodlaajceaaGreat.refer g ws) b:=by
    intro ws
    induction ws with
    | nil=>intro g _ b hb; exact hb
    | cons v ws ih =>
     intro g hg b hb
     have hlv:=hg v List.mem_cons_self
     exact ih _ (fun y hy=>⟨(hg y (List.mem_cons_of_mem _ hy)).1,(Live.bump hlv _).2 (hg y (List.mem_cons_of_mem _ hy)).2⟩) b ((Live.bump hlv _).2 hb)
   obtain ⟨c2,hc2,hp2⟩:=hLr (ptrs (q01 h w).fields) (Go.Proofs.YtpggcodlaajceaaGreat.less h w) (fun v hv=>by
    obtain ⟨hv1,hv2⟩:=q48.1 hv
    have hlv:=hi.field (q05 hc) hv1 hv2
    exact ⟨hlv.1,hlive _ hlv.2⟩) _ (hlive _ ⟨d,hd,hpd⟩)
   rw [hcl] at hc2; simp at hc2; subst hc2; omega
  ·have hk:Kept h (h.length - 1):=⟨d,hd,by omega⟩
   obtain ⟨c2,hc2,hn2⟩:=(h3 (h.length - 1)).2 ((Kept.less hl _).2 hk)
   rw [hcl] at hc2; simp at hc2; subst hc2; omega
theorem q6i:∀ (h:List Cell),q0t h<=h.length
 | []=>Nat.le_refl _
 | c :: h=>by have:=q6i h; simp only [q0t,List.length_cons]; split <;> omega
theorem qfz:∀ (h:List Cell) (c:Cell),h[q0t h]?=some c->c.count=0
 | [],c,hc=>by simp [q0t] at hc
 | d :: h,c,hc=>by
  simp only [q0t] at hc
  split at hc
  ·rename_i h0; simp at hc; subst hc; exact h0
  ·exact qfz h c (by simpa using hc)
theorem HInv.alloc {h:List Cell} {e e':Nat->Int} (hi:HInv h e) {t:Int} {fs:List Int} (hw:∀ w ∈ fs,isWord h w) (hl3:fs.length<=3) (ht:0<=t/\t<=99) (hle:∀ b,occ fs b<=e b)
  (he:∀ b,e' b=e b - occ fs b+if b=q0t h then 1 else 0) (htr:Trimmed h) :
  HInv (place h (q0t h) ⟨1,t,fs⟩) e'/\(∀ b,Kept (place h (q0t h) ⟨1,t,fs⟩) b ↔ Kept h b)/\Trimmed (place h (q0t h) ⟨1,t,fs⟩):=by
 unfold place
 have hnl:¬ Live h (q0t h):=fun ⟨c,hc,hp⟩=>by have:=qfz h c hc; omega
 by_cases hx:q0t h=h.length
 ·rw [if_pos hx]
  have hself:(h ++ [⟨1,t,fs⟩])[q0t h]?=some ⟨1,t,fs⟩:=by rw [hx]; simp
  have hoth:∀ b,b ≠ q0t h->(h ++ [⟨1,t,fs⟩])[b]?=h[b]?:=fun b hb=>by
   rcases Nat.lt_or_ge b h.length with h1 | h1
   ·rw [List.getElem?_append_left h1]
   ·rw [List.getElem?_eq_none (by simp; omega),List.getElem?_eq_none h1]
  refine ⟨hi.make hnl hself hoth (fun b=>by rw [qb1]; simp [refs]) hw hl3 ht hle he,fun b=>?_,fun c hc=>?_⟩
  ·by_cases hb:b=q0t h
   ·rw [hb]; unfold Kept; rw [hself,hx]; simp
   ·unfold Kept; rw [hoth b hb]
  ·simp at hc; subst hc; simp
 ·rw [if_neg hx]
  have hlt:q0t h < h.length:=by have:=q6i h; omega
  obtain ⟨d,hd⟩:=q00 hlt
  have h0:=qfz h d hd
  have hf:=((hi.cell d (q05 hd)).dead (by omega)).2.2 h0
  refine ⟨hi.make hnl (q1e hd) (fun b hb=>q2a hb) (fun b=>by rw [qda _ hd,hf]; simp [occ]) hw hl3 ht hle he,fun b=>Kept.set hd (by omega) (by simp) b,fun c hc=>?_⟩
  rw [List.length_set] at hc
  by_cases hb:h.length - 1=q0t h
  ·rw [hb,q1e hd] at hc; simp at hc; subst hc; simp
  ·rw [q2a hb] at hc; exact htr c hc
end
section
theorem qgp {im:Image} {x:Instr}:∀ {l:List Int} {k:Nat} {r:Int},r ∈ unlent im x k l->r ∈ l
 | [],k,r,h=>by simp [unlent] at h
 | y :: l,k,r,h=>by
  simp only [unlent] at h
  split at h
  ·exact List.mem_cons_of_mem _ (qgp h)
  ·rcases List.mem_cons.1 h with rfl | h
   ·exact List.mem_cons_self
   ·exact List.mem_cons_of_mem _ (qgp h)
theorem qe2 {im:Image} {x:Instr} {r:Int} (h:r ∈ taken im x):r ∈ x.args:=by
 unfold taken at h
 split at h
 ·exact h
 split at h
 ·exact List.mem_of_mem_take h
 split at h
 ·exact qgp h
 ·simp at h
theorem qm4 {ds:List Decl} (h:TypesOk ds) (c:Int):(q2m ds c).length<=3:=by
 unfold q2m
 split
 ·cases hg:(q17 ds)[c.toNat]? with
  | none=>simp
  | some f =>
   have hm:=q05 hg
   unfold q17 at hm
   obtain ⟨d,hd,hfd⟩:=List.mem_flatMap.1 hm
   obtain ⟨k,hk⟩:=List.mem_iff_getElem?.1 hd
   have:=(h.each k d hk).some' (List.length_pos_of_mem hfd)
   exact (this.2.2.2 f hfd).1
 ·simp
theorem FrameOk.put {im:Image} {g:Frame} (h:FrameOk im g) {r w o:Int} (hr:0<=r) (hw:isInt w \/ 1000<=w) (ho:0<=o) (hp:0 < o->1000<=w):FrameOk im (g.put r w o):=by
 refine ⟨h.proc,h.pc,by simp only [Frame.put,q2z]; exact h.lr,by simp only [Frame.put,q2z]; exact h.lo,h.lh,fun y hy=>?_,fun k q y hq hy=>?_,h.held⟩
 ·rcases q5u hy with rfl | hy
  ·exact hw
  ·exact h.reg y hy
 ·simp only [Frame.put] at hq hy
  rw [qcq] at hq hy
  have:=h.lr
  have:=h.lo
  split at hq <;> split at hy
  ·simp at hq hy; subst hq; subst hy; exact ⟨ho,hp⟩
  ·omega
  ·omega
  ·exact h.own k q y hq hy
theorem qie (w:Int):0<=q1g w:=by unfold q1g; split <;> omega
theorem qga {w:Int} (h:0 < q1g w):1000<=w:=by unfold q1g at h; split at h <;> omega
theorem qcg (w:Int) (b:Nat):(if w=1000+(b:Int) then q1g w else 0)=occ [w] b:=by
 simp only [occ,q1g]
 split
 ·rw [if_pos (by omega)]; rfl
 ·rfl
theorem qit (n:Int):isInt (clamp n):=by unfold clamp isInt; split <;> (try split) <;> omega
theorem qr5 (op a b:Int):isInt (prim op a b):=by
 unfold prim
 split
 ·exact qit _
 split
 ·exact qit _
 split
 ·exact qit _
 split <;> (unfold isInt; omega)
theorem q4l (lent:List Int):∀ (ws:List Int) (k:Nat),(q10 lent k ws).length=ws.length
 | [],k=>rfl
 | w :: ws,k=>by simp only [q10,List.length_cons,q4l lent ws]
theorem qlr (lent:List Int):∀ (ws:List Int) (k j:Nat) (o w:Int),(q10 lent k ws)[j]?=some o->ws[j]?=some w->0<=o/\(0 < o->1000<=w)
 | [],k,j,o,w,_,h=>by simp at h
 | v :: ws,k,0,o,w,ho,hw=>by
  simp [q10] at ho hw
  subst hw
  split at ho
  ·subst ho; omega
  ·subst ho; exact ⟨qie _,qga⟩
 | v :: ws,k,j+1,o,w,ho,hw=>qlr lent ws (k+1) j o w (by simpa [q10] using ho) (by simpa using hw)
theorem q31 (n:Nat):(q0p n).length=n:=by simp [q0p]
theorem q8x {n:Nat} {w:Int} (h:w ∈ q0p n):w=0:=List.eq_of_mem_replicate h
theorem qee {im:Image} {g dst:Int} {ws:List Int} {p:Proc} (hi:ImageOk im) (h0:0<=g) (hp:im.procs[g.toNat]?=some p) (hl:ws.length=p.params.length) (hw:∀ w ∈ ws,isInt w \/ 1000<=w):FrameOk im (q0r im g dst ws):=by
 have e:q0y im g=p:=by simp [q0y,hp]
 have hpo:=hi.each p (q05 hp)
 have hr:=hpo.regs
 have hlen:=hpo.len
 have hlt:=q04 hp
 refine ⟨⟨h0,by simp only [q0r]; omega⟩,⟨by simp [q0r],by simp only [q0r,e]; omega⟩,?_,?_,?_,fun w h1=>?_,fun k o w ho h1=>?_,fun w h1=>Or.inl (q8x h1)⟩
 ·simp only [q0r,e,List.length_append,q31]; omega
 ·simp only [q0r,e,List.length_append,q31,q4l]; omega
 ·simp only [q0r,e,q31]; omega
 ·simp only [q0r] at h1
  rcases List.mem_append.1 h1 with h1 | h1
  ·exact hw w h1
  ·rw [q8x h1]; exact Or.inl (by unfold isInt; omega)
 ·simp only [q0r] at ho h1
  rcases Nat.lt_or_ge k ws.length with h2 | h2
  ·rw [List.getElem?_append_left (by rw [q4l]; exact h2)] at ho
   rw [List.getElem?_append_left h2] at h1
   exact qlr _ ws 0 k o w ho h1
  ·rw [List.getElem?_append_right (by rw [q4l]; exact h2)] at ho
   rw [q8x (List.mem_of_getElem? ho)]; omega
theorem qbo (im:Image) (g dst:Int) (ws:List Int) (b:Nat):q0m (q0r im g dst ws).regs (q0r im g dst ws).own b=q0m ws (q10 (q0y im g).lent 0 ws) b:=by
 simp only [q0r]
 rw [qin _ _ (q4l _ _ _).symm,q8z (fun n hn=>q8x hn)]; omega
theorem q9z (im:Image) (g dst:Int) (ws:List Int) (b:Nat):holds [q0r im g dst ws] b=0:=by
 rw [q2j]; exact qt0 _ _
theorem qk1 {im:Image} {x:Instr} (f:Frame):∀ (args:List Int) (k:Nat) (b:Nat),q0m (words f args) (q10 (q0y im x.num).lent k (words f args)) b=occ ((unlent im x k args).map (at' f.regs)) b
 | [],k,b=>by simp [words,q0m,unlent,occ]
 | r :: rs,k,b=>by
  have ih:=qk1 (im:=im) (x:=x) f rs (k+1) b
  simp only [words,List.map_cons,q10,q0m,unlent] at ih ⊢
  rw [ih]
  by_cases hl:lentIn im x k=true
  ·rw [if_pos hl]
   unfold lentIn at hl
   rw [if_pos hl]; split <;> omega
  ·rw [if_neg hl]
   unfold lentIn at hl
   rw [if_neg hl]
   simp only [List.map_cons,occ]
   have:=qcg (at' f.regs r) b
   simp only [occ] at this
   omega
theorem qm7:∀ (ws:List Int) (k:Nat) (b:Nat),q0m ws (q10 [] k ws) b=occ ws b
 | [],k,b=>by simp [q0m,occ]
 | w :: ws,k,b=>by
  have:=qm7 ws (k+1) b
  have h2:=qcg w b
  simp only [occ] at h2
  simp only [q10,q0m,occ,this,List.any_nil,Bool.false_eq_true,if_false]
  omega
theorem StateOk.holdsSame {im:Image} {s:St} {hp:List Cell} {fs:List Frame} {f g:Frame} (h:StateOk im s) (hf:s.frames=fs ++ [f]) (hh:g.held=f.held) (hk:∀ b,Kept hp b ↔ Kept s.heap b) :
  (∀ a,Kept hp a->holds (fs ++ [g]) a=1)/\(∀ a,¬ Kept hp a->holds (fs ++ [g]) a=0):=by
 have e:∀ a,holds (fs ++ [g]) a=holds s.frames a:=fun a=>by rw [hf,q1d,q1d,q2j,q2j,hh]
 exact ⟨fun a ha=>by rw [e]; exact h.kept a ((hk a).1 ha),fun a ha=>by rw [e]; exact h.unkept a fun h2=>ha ((hk a).2 h2)⟩
theorem StateOk.push {im:Image} {s:St} (h:StateOk im s) (hr:s.status=3) {fs:List Frame} {f g:Frame} (hf:s.frames=fs ++ [f]) (hg:FrameOk im g) (hd:0<=g.dst/\g.dst < f.own.length/\at' f.own g.dst=0) {hp:List Cell} {calls:Int}
  (hh:HInv hp (owns (fs ++ [f,g]))) (ht:Trimmed hp) (hk:∀ a,Kept hp a->holds (fs ++ [f,g]) a=1) (hu:∀ a,¬ Kept hp a->holds (fs ++ [f,g]) a=0) (hc:calls=s.calls+1) (hm:s.calls < s.most) :
  StateOk im { s with heap:=hp,calls:=calls,frames:=fs ++ [f,g] }:=by
 have hc0:=h.calls
 have hdep:=h.depth
 rw [hf] at hdep
 refine ⟨h.image,h.status,⟨fun e=>by simp at e; omega,fun e=>by simp at e⟩,h.value,h.value0,h.most,⟨by simp only []; omega,by simp only []; omega⟩,by simp at hdep ⊢; omega,h.out,hh,ht,fun q hq=>?_,fun q hq=>?_,fun k p q hp hq=>?_,hk,hu⟩
 ·rcases List.mem_append.1 hq with hq | hq
  ·exact h.frames q (by rw [hf]; exact List.mem_append_left _ hq)
  ·simp at hq
   rcases hq with rfl | rfl
   ·exact h.frames _ (by rw [hf]; simp)
   ·exact hg
 ·have hfirst:=h.first
  rw [hf] at hfirst
  cases fs with
  | nil=>simp at hq; subst hq; exact hfirst f (by simp)
  | cons y ys=>simp at hq; subst hq; exact hfirst y (by simp)
 ·have hch:=h.chain k
  rw [hf] at hch
  simp only [] at hp hq
  have e:fs ++ [f,g]=(fs ++ [f]) ++ [g]:=by simp
  rw [e] at hp hq
  have hkl:=q04 hq
  simp at hkl
  rw [List.getElem?_append_left (by simp; omega)] at hp
  rcases Nat.lt_or_ge (k+1) (fs ++ [f]).length with h1 | h1
  ·rw [List.getElem?_append_left h1] at hq
   exact hch p q hp hq
  ·simp at h1
   rw [List.getElem?_append_right (by simp; omega)] at hq
   have e2:k+1 - (fs ++ [f]).length=0:=by simp; omega
   rw [e2] at hq; simp at hq; subst hq
   rw [List.getElem?_append_right (by omega)] at hp
   have e3:k - fs.length=0:=by omega
   rw [e3] at hp; simp at hp; subst hp; exact hd
set_option maxHeartbeats 1000000 in
theorem qsg {im:Image} {s:St} {fs:List Frame} {f:Frame} (h:StateOk im s) (hr:s.status=3) (hf:s.frames=fs ++ [f])
  (hm:MayRun im s f (q14 im f) (q0c f.regs f.own (taken im (q14 im f)))) (hcall:¬ (isCall (q14 im f).op/\s.calls=s.most)) :
  StateOk im (perform im s fs f (q14 im f) (q0c f.regs f.own (taken im (q14 im f)))):=by
 have hF:FrameOk im f:=h.frames f (by rw [hf]; simp)
 obtain ⟨p,hp,hpe,hP,hcode,hI⟩:=hF.instr h.image
 generalize q14 im f=x at *
 have ⟨lr,lo,lh⟩:(f.regs.length:Int)=p.regs/\(f.own.length:Int)=p.regs/\(f.held.length:Int)=p.regs:=⟨hpe ▸ hF.lr,hpe ▸ hF.lo,hpe ▸ hF.lh⟩
 have hArg:∀ a ∈ x.args,0<=a/\a < f.regs.length:=fun a ha=>by have:=hI.args a ha; omega
 have hTk:∀ r ∈ taken im x,0<=r/\r < f.regs.length:=fun r hr=>hArg r (qe2 hr)
 have how:=qcu (regs:=f.regs) (taken im x) f.own hTk (by omega)
 have hol:=q3d f.regs (taken im x) f.own
 have hle:=q40 (regs:=f.regs) (taken im x) f.own
 generalize q0c f.regs f.own (taken im x)=own at *
 have hfsok:∀ q ∈ fs,FrameOk im q:=fun q hq=>h.frames q (by rw [hf]; exact List.mem_append_left _ hq)
 have hEn:∀ b,0<=owns fs b+q0m f.regs own b:=fun b=>by
  have:=qkc hfsok b; have:=q82 (regs:=f.regs) hm.nn b; omega
 have HE:HInv s.heap (fun b=>owns fs b+q0m f.regs own b+occ ((taken im x).map (at' f.regs)) b):=h.heap.congr fun b=>by
  rw [hf,q1u,q3w,how]; omega
 have hrange:∀ pc':Int,0<=pc'->pc' < p.code.length->FrameOk im { f with own:=own,pc:=pc' }:=fun pc' h0 h1 =>
  ⟨hF.proc,⟨h0,by rw [hpe]; exact h1⟩,hF.lr,by simp only [hol]; exact hF.lo,hF.lh,hF.reg,fun k o w ho hw=>by
   obtain ⟨q,hq,hqo⟩:=hle k o ho
   have h2:=hF.own k q w hq hw
   exact ⟨hm.nn o (List.mem_of_getElem? ho),fun hpos=>h2.2 (by omega)⟩,hF.held⟩
 have hpc:=hF.pc
 rw [hpe] at hpc
 have hnext:x.op ≠ 23->x.op ≠ 24->f.pc+1 < p.code.length:=fun h1 h2=>by
  rcases Classical.em (f.pc+1 < p.code.length) with h3 | h3
  ·exact h3
  ·have e:f.pc.toNat=p.code.length - 1:=by omega
   rw [e] at hcode
   have:=hP.last x hcode
   omega
 have hG:x.op ≠ 23->x.op ≠ 24->FrameOk im { f with own:=own,pc:=f.pc+1 }:=fun h1 h2=>hrange _ (by omega) (hnext h1 h2)
 have hreg:∀ r:Int,0<=r->r < f.regs.length->isInt (at' f.regs r) \/ 1000<=at' f.regs r:=fun r h0 h1=>hF.reg _ (q18 h0 h1)
 have hlt1000:∀ r:Int,0<=r->r < f.regs.length->at' f.regs r < 1000->isInt (at' f.regs r):=fun r h0 h1 h2=>by rcases hreg r h0 h1 with h3 | h3; exact h3; omega
 have hdst:=hI.dst
 have hd0:Sets x.op->at' own x.dst=0:=fun hs=>by
  have h1:=hm.dst hs
  have h2:=hm.nn _ (q18 (l:=own) hdst.1 (by omega)); omega
 have hword:∀ r ∈ taken im x,isWord s.heap (at' f.regs r):=fun r hrm=>by
  have hrr:=hTk r hrm
  rcases hreg r hrr.1 hrr.2 with h3 | h3
  ·exact Or.inl h3
  ·refine Or.inr ⟨h3,HE.lv _ ?_⟩
   have:=hEn (ix (at' f.regs r))
   have:=q8w (l:=(taken im x).map (at' f.regs)) (a:=ix (at' f.regs r)) (by rw [ptr_ix h3]; exact List.mem_map.2 ⟨r,hrm,rfl⟩)
   omega
 have hputOwns:∀ (pc':Int) (held':List Int) (w o:Int),Sets x.op->∀ b,owns (fs ++ [Frame.put { f with own:=own,pc:=pc',held:=held' } x.dst w o]) b=owns fs b+q0m f.regs own b+(if w=1000+(b:Int) then o else 0):=fun pc' held' w o hs b=>by
  rw [q1u,q3w]
  simp only [Frame.put]
  rw [qpz hdst.1 (by omega) (by omega) (hd0 hs)]; omega
 -- a register is set,and nothing else
 have simple:∀ (w:Int) (out:List Int),Sets x.op->x.op ≠ 23->x.op ≠ 24->taken im x=[]->(isInt w \/ 1000<=w)->(∀ n ∈ out,isInt n)->StateOk im { s with out:=out,frames:=fs ++ [Frame.put { f with own:=own,pc:=f.pc+1 } x.dst w 0] }:=fun w out hs h1 h2 ht hw ho=>by
  obtain ⟨hk,hu⟩:=h.holdsSame hf (g:=Frame.put { f with own:=own,pc:=f.pc+1 } x.dst w 0) rfl (fun b=>Iff.rfl)
  refine h.top hr hf (hd:=rfl) ((hG h1 h2).put hdst.1 hw (Int.le_refl _) (fun h3=>by omega)) (HE.congr fun b=>?_) h.trimmed hk hu ho (calls:=s.calls) ⟨Int.le_refl _,h.calls.2⟩
  rw [hputOwns _ _ _ _ hs,ht]; simp [occ]
 -- only the place in the code changes
 have goto:∀ pc':Int,0<=pc'->pc' < p.code.length->taken im x=[]->StateOk im { s with frames:=fs ++ [{ f with own:=own,pc:=pc' }] }:=fun pc' h0 h1 ht=>by
  obtain ⟨hk,hu⟩:=h.holdsSame hf (g:={ f with own:=own,pc:=pc' }) rfl (fun b=>Iff.rfl)
  refine h.top hr hf (hd:=rfl) (hrange pc' h0 h1) (HE.congr fun b=>?_) h.trimmed hk hu h.out (calls:=s.calls) ⟨Int.le_refl _,h.calls.2⟩
  rw [q1u,q3w,ht]; simp [occ]
 have hOp:=hI.op
 unfold OpOk at hOp
 unfold perform
 simp only []
 by_cases e0:x.op=0
 ·rw [if_pos e0] at hOp ⊢
  exact simple _ _ (by unfold Sets; omega) (by omega) (by omega) (by simp [taken,e0]) (Or.inl hOp.2) h.out
 rw [if_neg e0] at hOp ⊢
 by_cases e1:x.op=1 \/ x.op=2 \/ x.op=3 \/ x.op=4
 ·rw [if_pos e1]
  exact simple _ _ (by unfold Sets; omega) (by omega) (by omega) (by unfold taken; rw [if_neg (by omega),if_neg (by omega),if_neg (by omega)]) (Or.inl (qr5 _ _ _)) h.out
 rw [if_neg e1]
 -- the first argument
 have arg0:1<=x.args.length->0<=at' x.args 0/\at' x.args 0 < f.regs.length:=fun h1=>hArg _ (q18 (by omega) (by omega))
 by_cases e5:x.op=5
 ·rw [if_pos e5]
  rw [if_neg (by omega),if_pos (by omega)] at hOp
  have ha:=arg0 (by omega)
  have hint:isInt (at' f.regs (at' x.args 0)):=hlt1000 _ ha.1 ha.2 (hm.ints (by omega) _ (q18 (by omega) (by omega)))
  refine simple _ _ (by unfold Sets; omega) (by omega) (by omega) (by simp [taken,e5]) (Or.inl hint) fun n hn=>?_
  rcases List.mem_append.1 hn with hn | hn
  ·exact h.out n hn
  ·simp at hn; subst hn; exact hint
 rw [if_neg e5]
 have hwordsW:(taken im x=x.args)->∀ w ∈ words f x.args,isWord s.heap w:=fun ht w hw=>by
  obtain ⟨r,hr1,rfl⟩:=List.mem_map.1 hw
  exact hword r (ht ▸ hr1)
 -- a new cell
 have alloc:∀ t,taken im x=x.args->x.op ≠ 23->x.op ≠ 24->Sets x.op->x.args.length<=3->0<=t/\t<=99->StateOk im { s with heap:=place s.heap (q0t s.heap) ⟨1,t,words f x.args⟩,frames:=fs ++ [Frame.put { f with own:=own,pc:=f.pc+1 } x.dst (1000+q0t s.heap) 1] }:=fun t ht h1 h2 hs h3 htag=>by
  obtain ⟨k1,k2,k3⟩:=HE.alloc (t:=t) (fs:=words f x.args) (e':=owns (fs ++ [Frame.put { f with own:=own,pc:=f.pc+1 } x.dst (1000+q0t s.heap) 1])) (hwordsW ht) (by simpa [words] using h3) htag (fun b=>by rw [ht]; have:=hEn b; simp only [words]; omega) (fun b=>by
   rw [hputOwns _ _ _ _ hs,ht]
   simp only [words]
   have:(if (1000+(q0t s.heap:Int))=1000+(b:Int) then (1:Int) else 0)=if b=q0t s.heap then 1 else 0:=by
    by_cases hb:b=q0t s.heap
    ·rw [if_pos hb,if_pos (by omega)]
    ·rw [if_neg hb,if_neg (by omega)]
   rw [this]; omega) h.trimmed
  obtain ⟨hk,hu⟩:=h.holdsSame hf (g:=Frame.put { f with own:=own,pc:=f.pc+1 } x.dst (1000+q0t s.heap) 1) rfl k2
  exact h.top hr hf (hd:=rfl) ((hG h1 h2).put hdst.1 (Or.inr (by omega)) (by omega) (fun _=>by omega)) k1 k3 hk hu h.out (calls:=s.calls) ⟨Int.le_refl _,h.calls.2⟩
 have h12:(q17 im.decls).length<=12:=by
  have:=fc_12 h.image.sigs.types im.decls.length
  rw [fc_all _ _ (Nat.le_refl _)] at this; exact this
 have hp4:=h.image.sigs.len
 by_cases e6:x.op=6
 ·rw [if_pos e6]
  rw [if_neg (by omega),if_neg (by omega),if_pos e6] at hOp
  have ht:taken im x=x.args:=by unfold taken; rw [if_pos (by omega)]
  have hs:Sets x.op:=by unfold Sets; omega
  have hl3:x.args.length<=3:=by rw [hOp.2.1]; exact qm4 h.image.sigs.types _
  split
  ·rename_i hin
   have hi1:0<=x.into - 1/\x.into - 1 < f.held.length:=by omega
   have hv:=hF.held _ (q18 (l:=f.held) hi1.1 hi1.2)
   have hv2:1000<=at' f.held (x.into - 1):=by omega
   -- the kept cell
   have hh1:0 < holds s.frames (ix (at' f.held (x.into - 1))):=by
    rw [hf,q1d,q2j]
    have:=qah fs (ix (at' f.held (x.into - 1)))
    have:=q8w (l:=f.held) (a:=ix (at' f.held (x.into - 1))) (by rw [ptr_ix hv2]; exact q18 hi1.1 hi1.2)
    omega
   have hkp:Kept s.heap (ix (at' f.held (x.into - 1))):=Classical.byContradiction fun hn=>by have:=h.unkept _ hn; omega
   have hone:=h.kept _ hkp
   obtain ⟨d,hd,hdn⟩:=hkp
   have hfz:∀ b,occ d.fields b=0:=fun b=>q59 fun hw=>by
    have:=((HE.cell d (q05 hd)).dead (by omega)).2.1 _ hw; omega
   have k1:=HE.make (t:=x.num) (fs:=words f x.args) (e':=owns (fs ++ [Frame.put { f with own:=own,pc:=f.pc+1,held:=setI f.held (x.into - 1) 0 } x.dst (at' f.held (x.into - 1)) 1])) (a:=ix (at' f.held (x.into - 1))) (h':=s.heap.set (ix (at' f.held (x.into - 1))) ⟨1,x.num,words f x.args⟩)
    (Kept.unlive ⟨d,hd,hdn⟩) (q1e hd) (fun b hb=>q2a hb) (fun b=>by rw [qda _ hd,hfz]; simp only []; omega) (hwordsW ht) (by simpa [words] using hl3) (by omega) (fun b=>by rw [ht]; have:=hEn b; simp only [words]; omega) (fun b=>by
     rw [hputOwns _ _ _ _ hs,ht]
     simp only [words]
     have:(if at' f.held (x.into - 1)=1000+(b:Int) then (1:Int) else 0)=if b=ix (at' f.held (x.into - 1)) then 1 else 0:=by
      by_cases hb:b=ix (at' f.held (x.into - 1))
      ·rw [if_pos hb,if_pos (by rw [hb,ptr_ix hv2])]
      ·rw [if_neg hb,if_neg (fun e2=>hb (by rw [e2,ix_ptr]))]
     rw [this]; omega)
   have hheldocc:∀ b,occ (setI f.held (x.into - 1) 0) b=occ f.held b - (if b=ix (at' f.held (x.into - 1)) then 1 else 0):=by
    intro b
    have hgen:∀ (l:List Int) (k:Nat) (w:Int),l[k]?=some w->occ (l.set k 0) b=occ l b - (if w=1000+(b:Int) then 1 else 0):=by
     intro l
     induction l with
     | nil=>intro k w hk; simp at hk
     | cons y l ih =>
      intro k w hk
      cases k with
      | zero=>simp at hk; subst hk; simp only [List.set_cons_zero,occ]; rw [if_neg (by omega)]; omega
      | succ k=>have:=ih k w (by simpa using hk); simp only [List.set_cons_succ,occ,this]; omega
    rw [setI,hgen _ _ _ (at_get hi1.1 hi1.2)]
    by_cases hb:b=ix (at' f.held (x.into - 1))
    ·rw [if_pos hb,if_pos (by rw [hb,ptr_ix hv2])]
    ·rw [if_neg hb,if_neg (fun e2=>hb (by rw [e2,ix_ptr]))]
   have hhold:∀ b,holds (fs ++ [Frame.put { f with own:=own,pc:=f.pc+1,held:=setI f.held (x.into - 1) 0 } x.dst (at' f.held (x.into - 1)) 1]) b=holds s.frames b - (if b=ix (at' f.held (x.into - 1)) then 1 else 0):=fun b=>by
    rw [hf,q1d,q1d,q2j,q2j]
    simp only [Frame.put]
    rw [hheldocc]; omega
   have hG':FrameOk im { f with own:=own,pc:=f.pc+1,held:=setI f.held (x.into - 1) 0 }:=by
    have h1:=hG (by omega) (by omega)
    exact ⟨h1.proc,h1.pc,h1.lr,h1.lo,by simp only [q2z]; exact h1.lh,h1.reg,h1.own,fun w hw=>by rcases q5u hw with hw | hw; exact Or.inl hw; exact h1.held w hw⟩
   refine h.top hr hf (hd:=rfl) (hG'.put hdst.1 (Or.inr hv2) (by omega) (fun _=>hv2)) k1 ?_ (fun a ha=>?_) (fun a ha=>?_) h.out (calls:=s.calls) ⟨Int.le_refl _,h.calls.2⟩
   ·intro c hc
    rw [List.length_set] at hc
    by_cases hb:s.heap.length - 1=ix (at' f.held (x.into - 1))
    ·rw [hb,q1e hd] at hc; simp at hc; subst hc; simp
    ·rw [q2a hb] at hc; exact h.trimmed c hc
   ·rw [hhold]
    by_cases hb:a=ix (at' f.held (x.into - 1))
    ·subst hb; rw [Kept.self hd] at ha; simp at ha
    ·rw [if_neg hb]; rw [Kept.ne hb] at ha; have:=h.kept a ha; omega
   ·rw [hhold]
    by_cases hb:a=ix (at' f.held (x.into - 1))
    ·subst hb; rw [if_pos rfl]; omega
    ·rw [if_neg hb]; rw [Kept.ne hb] at ha; have:=h.unkept a ha; omega
  ·exact alloc _ ht (by omega) (by omega) hs hl3 (by omega)
 rw [if_neg e6]
 by_cases e10:x.op=10
 ·rw [if_pos e10]
  rw [if_neg (by omega),if_neg (by omega),if_neg e6,if_neg (by omega),if_pos e10] at hOp
  obtain ⟨⟨q,hq0,hq1,hq2⟩,_⟩:=hOp
  have h3:=(h.image.sigs.each q (q05 hq1)).1
  have:=q04 hq1
  exact alloc _ (by unfold taken; rw [if_pos (by omega)]) (by omega) (by omega) (by unfold Sets; omega) (by omega) (by unfold q0j; omega)
 rw [if_neg e10]
 by_cases e14:x.op=14
 ·rw [if_pos e14]
  rw [if_neg (by omega),if_pos (by omega)] at hOp
  have ha:=arg0 (by omega)
  have ht:taken im x=[]:=by simp [taken,e14]
  obtain ⟨hl,hmx⟩:=hm.dup e14
  obtain ⟨hk,hu⟩:=h.holdsSame hf (g:={ f with own:=setI own (at' x.args 0) (at' own (at' x.args 0)+1),pc:=f.pc+1 }) rfl (fun b=>Kept.bump hl b)
  have h1:=hG (by omega) (by omega)
  refine h.top hr hf (hd:=rfl) (g:={ f with own:=setI own (at' x.args 0) (at' own (at' x.args 0)+1),pc:=f.pc+1 }) ⟨h1.proc,h1.pc,h1.lr,by simp only [q2z]; exact h1.lo,h1.lh,h1.reg,fun k o w ho hw=>?_,h1.held⟩ (HE.bump hl hmx fun b=>?_) ?_ hk hu h.out (calls:=s.calls) ⟨Int.le_refl _,h.calls.2⟩
  ·simp only [] at ho hw
   rw [qcq] at ho
   split at ho
   ·rename_i hkk
    simp at ho
    have e:at' f.regs (at' x.args 0)=w:=by rw [at',List.getD_eq_getElem?_getD,← hkk.1,hw]; rfl
    have:=hm.nn _ (q18 (l:=own) ha.1 (by omega))
    have:=hl.1
    exact ⟨by omega,fun _=>by omega⟩
   ·exact h1.own k o w ho hw
  ·rw [q1u,q3w,ht]
   simp only []
   rw [qj6 ha.1 ha.2 (by omega)]
   have hwx:=ptr_ix hl.1
   simp only [List.map_nil,occ]
   by_cases hb:b=ix (at' f.regs (at' x.args 0))
   ·rw [if_pos hb,if_pos (by rw [hb,hwx])]; omega
   ·rw [if_neg hb,if_neg (fun e2=>hb (by rw [e2,ix_ptr]))]; omega
  ·obtain ⟨hc,hp2⟩:=q0i hl
   intro c hcc
   unfold bump at hcc
   rw [List.length_set] at hcc
   by_cases hb:s.heap.length - 1=ix (at' f.regs (at' x.args 0))
   ·rw [hb,q1e hc] at hcc; simp at hcc; subst hcc; simp only []; omega
   ·rw [q2a hb] at hcc; exact h.trimmed c hcc
 rw [if_neg e14]
 have args1:x.args.length=1->x.args=[at' x.args 0]:=fun h1=>by
  cases hx:x.args with
  | nil=>rw [hx] at h1; simp at h1
  | cons y l=>cases l with
   | nil=>rfl
   | cons z l=>rw [hx] at h1; simp at h1
 by_cases e15:x.op=15
 ·rw [if_pos e15]
  rw [if_neg (by omega),if_pos (by omega)] at hOp
  have ht:taken im x=[at' x.args 0]:=by unfold taken; rw [if_pos (by omega)]; exact args1 (by omega)
  rw [ht] at HE
  have k1:=HInv.dropS _ s.heap [at' f.regs (at' x.args 0)] (fun b=>owns fs b+q0m f.regs own b) (Nat.le_refl _) (HE.congr fun b=>rfl) hEn
  obtain ⟨hk,hu⟩:=h.holdsSame hf (g:={ f with own:=own,pc:=f.pc+1 }) rfl (fun b=>(Kept.trim (h:=dropS s.heap [at' f.regs (at' x.args 0)]) b).trans (Kept.dropS _ _ _ (Nat.le_refl _) b))
  exact h.top hr hf (hd:=rfl) (hG (by omega) (by omega)) (k1.trim.congr fun b=>by rw [q1u,q3w]) (qiq _) hk hu h.out (calls:=s.calls) ⟨Int.le_refl _,h.calls.2⟩
 rw [if_neg e15]
 by_cases e16:x.op=16 \/ x.op=17
 ·rw [if_pos e16]
  rw [if_neg (by omega),if_neg (by omega),if_neg e6,if_neg (by omega),if_neg e10,if_pos e16] at hOp
  have ha:=arg0 (by omega)
  have ht:taken im x=[at' x.args 0]:=by
   unfold taken; rw [if_neg (by omega),if_pos e16]
   cases hx:x.args with
   | nil=>rw [hx] at hOp; simp at hOp
   | cons y l=>rfl
  obtain ⟨hl,hptr,hfit,hheld⟩:=hm.open' e16
  obtain ⟨hc,hp2⟩:=q0i hl
  have hrest:∀ r ∈ x.args.drop 1,0<=r/\r < own.length/\1000<=at' f.regs r:=fun r hr1=>by
   have h1:=hArg r (List.mem_of_mem_drop hr1)
   have h2:at' f.regs r ∈ ptrs (q01 s.heap (at' f.regs (at' x.args 0))).fields:=by rw [hptr]; exact List.mem_map.2 ⟨r,hr1,rfl⟩
   exact ⟨h1.1,by omega,(q48.1 h2).2⟩
  have h1:=hG (by omega) (by omega)
  have hGb:FrameOk im { f with own:=q0x own (x.args.drop 1),pc:=f.pc+1 }:=⟨h1.proc,h1.pc,h1.lr,by simp only [q4h]; exact h1.lo,h1.lh,h1.reg,qnu (regs:=f.regs) _ own hrest h1.own,h1.held⟩
  have hob:∀ b,q0m f.regs (q0x own (x.args.drop 1)) b=q0m f.regs own b+occ (q01 s.heap (at' f.regs (at' x.args 0))).fields b:=fun b=>by
   rw [qi6 (regs:=f.regs) _ _ (fun r hr1=>by have:=hrest r hr1; omega) (by omega),← qaj (q01 s.heap _).fields,hptr]; rfl
  have hea:0 < owns fs (ix (at' f.regs (at' x.args 0)))+q0m f.regs own (ix (at' f.regs (at' x.args 0)))+occ ((taken im x).map (at' f.regs)) (ix (at' f.regs (at' x.args 0))):=by
   rw [ht]
   have:=hEn (ix (at' f.regs (at' x.args 0)))
   simp only [List.map_cons,List.map_nil,q2p hl.1,if_pos,occ]
   omega
  have hE':∀ b,owns fs b+q0m f.regs (q0x own (x.args.drop 1)) b=(owns fs b+q0m f.regs own b+occ ((taken im x).map (at' f.regs)) b) - (if b=ix (at' f.regs (at' x.args 0)) then 1 else 0)+occ (q01 s.heap (at' f.regs (at' x.args 0))).fields b:=fun b=>by
   rw [hob,ht]
   simp only [List.map_cons,List.map_nil,q2p hl.1,occ]; omega
  split
  ·rename_i hone
   have hh0:=hheld hone.2
   have k1:=HE.gone hc hone.1 hea (c':=⟨-1,0,q0p (q01 s.heap (at' f.regs (at' x.args 0))).fields.length⟩) (by simp) (by simp) rfl (fun w hw=>q8x hw) (by simp only [q31]; exact (HE.cell _ (q05 hc)).fl) (fun h2=>by simp at h2) (e':=owns (fs ++ [{ f with own:=q0x own (x.args.drop 1),pc:=f.pc+1,held:=setI f.held (at' x.args 0) (at' f.regs (at' x.args 0)) }])) (fun b=>by rw [q1u,q3w]; exact hE' b)
   have hgen:∀ (b:Nat) (w:Int) (l:List Int) (k:Nat),l[k]?=some 0->occ (l.set k w) b=occ l b+(if w=1000+(b:Int) then 1 else 0):=by
    intro b w l
    induction l with
    | nil=>intro k hk; simp at hk
    | cons y l ih =>
     intro k hk
     cases k with
     | zero=>simp at hk; subst hk; simp only [List.set_cons_zero,occ]; split <;> simp_all <;> omega
     | succ k=>have:=ih k (by simpa using hk); simp only [List.set_cons_succ,occ,this]; omega
   have hah:at' x.args 0 < f.held.length:=by omega
   have hhold:∀ b,holds (fs ++ [{ f with own:=q0x own (x.args.drop 1),pc:=f.pc+1,held:=setI f.held (at' x.args 0) (at' f.regs (at' x.args 0)) }]) b=holds s.frames b+(if b=ix (at' f.regs (at' x.args 0)) then 1 else 0):=fun b=>by
    rw [hf,q1d,q1d,q2j,q2j]
    have hgg:=at_get (l:=f.held) ha.1 hah
    rw [hh0] at hgg
    simp only [setI]
    rw [hgen b _ _ _ hgg]
    by_cases hb:b=ix (at' f.regs (at' x.args 0))
    ·rw [if_pos hb,if_pos (by rw [hb,ptr_ix hl.1])]; omega
    ·rw [if_neg hb,if_neg (fun e2=>hb (by rw [e2,ix_ptr]))]; omega
   have hnk:¬ Kept s.heap (ix (at' f.regs (at' x.args 0))):=fun hk=>hk.unlive hl.2
   refine h.top hr hf (hd:=rfl) (g:={ f with own:=q0x own (x.args.drop 1),pc:=f.pc+1,held:=setI f.held (at' x.args 0) (at' f.regs (at' x.args 0)) }) ⟨hGb.proc,hGb.pc,hGb.lr,hGb.lo,by simp only [q2z]; exact hGb.lh,hGb.reg,hGb.own,fun w hw=>?_⟩ k1 ?_ (fun a ha2=>?_) (fun a ha2=>?_) h.out (calls:=s.calls) ⟨Int.le_refl _,h.calls.2⟩
   ·rcases q5u hw with hw | hw
    ·rw [hw]; exact Or.inr hl.1
    ·exact hF.held w hw
   ·intro c hcc
    rw [List.length_set] at hcc
    by_cases hb:s.heap.length - 1=ix (at' f.regs (at' x.args 0))
    ·rw [hb,q1e hc] at hcc; simp at hcc; subst hcc; simp
    ·rw [q2a hb] at hcc; exact h.trimmed c hcc
   ·rw [hhold]
    by_cases hb:a=ix (at' f.regs (at' x.args 0))
    ·rw [if_pos hb,hb,h.unkept _ hnk]; rfl
    ·rw [if_neg hb]; rw [Kept.ne hb] at ha2; have:=h.kept a ha2; omega
   ·rw [hhold]
    by_cases hb:a=ix (at' f.regs (at' x.args 0))
    ·subst hb; rw [Kept.self hc] at ha2; simp at ha2
    ·rw [if_neg hb]; rw [Kept.ne hb] at ha2; have:=h.unkept a ha2; omega
  ·obtain ⟨k1,k2,k3⟩:=HE.apart hl hea hfit (e':=owns (fs ++ [{ f with own:=q0x own (x.args.drop 1),pc:=f.pc+1 }])) (fun b=>by rw [q1u,q3w]; exact hE' b) h.trimmed
   obtain ⟨hk,hu⟩:=h.holdsSame hf (g:={ f with own:=q0x own (x.args.drop 1),pc:=f.pc+1 }) rfl k2
   exact h.top hr hf (hd:=rfl) hGb k1 k3 hk hu h.out (calls:=s.calls) ⟨Int.le_refl _,h.calls.2⟩
 rw [if_neg e16]
 by_cases e18:x.op=18
 ·rw [if_pos e18]
  rw [if_neg (by omega),if_pos (by omega)] at hOp
  have ha:=arg0 (by omega)
  have ht:taken im x=[at' x.args 0]:=by unfold taken; rw [if_pos (by omega)]; exact args1 (by omega)
  have hs:Sets x.op:=by unfold Sets; omega
  obtain ⟨hk,hu⟩:=h.holdsSame hf (g:=Frame.put { f with own:=own,pc:=f.pc+1 } x.dst (at' f.regs (at' x.args 0)) (q1g (at' f.regs (at' x.args 0)))) rfl (fun b=>Iff.rfl)
  refine h.top hr hf (hd:=rfl) ((hG (by omega) (by omega)).put hdst.1 (hreg _ ha.1 ha.2) (qie _) qga) (HE.congr fun b=>?_) h.trimmed hk hu h.out (calls:=s.calls) ⟨Int.le_refl _,h.calls.2⟩
  rw [hputOwns _ _ _ _ hs,ht,qcg]; rfl
 rw [if_neg e18]
 by_cases e19:x.op=19
 ·rw [if_pos e19]
  rw [if_neg (by omega),if_neg (by omega),if_neg e6,if_neg (by omega),if_neg e10,if_neg e16,if_pos e19] at hOp
  obtain ⟨hl,hnum⟩:=hm.load e19
  obtain ⟨hc,hp2⟩:=q0i hl
  refine simple _ _ (by unfold Sets; omega) (by omega) (by omega) (by simp [taken,e19]) ?_ h.out
  rcases ((HE.cell _ (q05 hc)).alive hp2).1 _ (q18 hOp.2.1 hnum) with h2 | h2
  ·exact Or.inl h2
  ·exact Or.inr h2.1
 rw [if_neg e19]
 by_cases e20:x.op=20
 ·rw [if_pos e20]
  rw [if_neg (by omega),if_neg (by omega),if_neg e6,if_neg (by omega),if_neg e10,if_neg e16,if_neg e19,if_pos e20] at hOp
  have:=hnext (by omega) (by omega)
  exact goto _ (by split <;> omega) (by split <;> omega) (by simp [taken,e20])
 rw [if_neg e20]
 by_cases e21:x.op=21
 ·rw [if_pos e21]
  rw [if_neg (by omega),if_neg (by omega),if_neg e6,if_neg (by omega),if_neg e10,if_neg e16,if_neg e19,if_neg e20,if_neg (by omega),if_pos e21] at hOp
  obtain ⟨hl,htag⟩:=hm.switch e21
  have hix:idxOf (q1h im.decls x.num) (q01 s.heap (at' f.regs (at' x.args 0))).tag < (q1h im.decls x.num).length:=List.findIdx_lt_length_of_exists ⟨_,htag,by simp⟩
  obtain ⟨hj1,hj2⟩:=hOp.2.2
  have:=hj2 _ (q18 (l:=x.jumps) (i:=(idxOf (q1h im.decls x.num) (q01 s.heap (at' f.regs (at' x.args 0))).tag:Nat)) (by omega) (by omega))
  exact goto _ (by omega) (by omega) (by simp [taken,e21])
 rw [if_neg e21]
 by_cases e22:x.op=22
 ·rw [if_pos e22]
  rw [if_neg (by omega),if_neg (by omega),if_neg e6,if_neg (by omega),if_neg e10,if_neg e16,if_neg e19,if_neg e20,if_pos e22] at hOp
  exact goto _ (by omega) (by omega) (by simp [taken,e22])
 rw [if_neg e22]
 have hwreg:∀ w ∈ words f x.args,isInt w \/ 1000<=w:=fun w hw=>by
  obtain ⟨r,hr1,rfl⟩:=List.mem_map.1 hw
  exact hreg r (hArg r hr1).1 (hArg r hr1).2
 have hless:isCall x.op->s.calls < s.most:=fun hc=>by
  have:=h.calls
  have:s.calls ≠ s.most:=fun e=>hcall ⟨hc,e⟩
  omega
 -- the state with the frame's registers consumed
 have hmid:∀ (hp:List Cell),s.calls < s.most->x.op ≠ 23->x.op ≠ 24->∀ (g:Frame),FrameOk im g->Sets x.op->g.dst=x.dst->HInv hp (owns (fs ++ [{ f with own:=own,pc:=f.pc+1 },g]))->Trimmed hp->(∀ b,Kept hp b ↔ Kept s.heap b)->(∀ b,holds [g] b=0) ->
   StateOk im { s with calls:=s.calls+1,heap:=hp,frames:=fs ++ [{ f with own:=own,pc:=f.pc+1 },g] }:=fun hp hcm h1 h2 g hg hs hgd hH hT hK hhz=>by
  have hc0:=h.calls
  have hdep:=h.depth
  rw [hf] at hdep
  have ee:fs ++ [{ f with own:=own,pc:=f.pc+1 },g]=(fs ++ [{ f with own:=own,pc:=f.pc+1 }]) ++ [g]:=by simp
  have hhold:∀ b,holds (fs ++ [{ f with own:=own,pc:=f.pc+1 },g]) b=holds s.frames b:=fun b=>by
   rw [ee,q1d,hhz,hf,q1d,q1d,q2j,q2j]; simp
  refine ⟨h.image,h.status,⟨fun e=>by simp at e; omega,fun e=>by simp at e⟩,h.value,h.value0,h.most,⟨by simp only []; omega,by simp only []; omega⟩,by simp at hdep ⊢; omega,h.out,hH,hT,fun q hq=>?_,fun q hq=>?_,fun k p1 q hp1 hq=>?_,fun a ha=>?_,fun a ha=>?_⟩
  ·rcases List.mem_append.1 hq with hq | hq
   ·exact hfsok q hq
   ·simp at hq
    rcases hq with rfl | rfl
    ·exact hG h1 h2
    ·exact hg
  ·have hfirst:=h.first
   rw [hf] at hfirst
   cases fs with
   | nil=>simp at hq; subst hq; exact hfirst f (by simp)
   | cons y ys=>simp at hq; subst hq; exact hfirst y (by simp)
  ·have hch:=h.chain k
   rw [hf] at hch
   simp only [] at hp1 hq
   rw [ee] at hp1 hq
   have hkl:=q04 hq
   simp at hkl
   rw [List.getElem?_append_left (by simp; omega)] at hp1
   rcases Nat.lt_or_ge (k+1) (fs.length+1) with h3 | h3
   ·rw [List.getElem?_append_left (by simp; omega)] at hq
    rw [List.getElem?_append_left (by omega)] at hp1
    rcases Nat.lt_or_ge (k+1) fs.length with h4 | h4
    ·rw [List.getElem?_append_left h4] at hq
     exact hch p1 q (by rw [List.getElem?_append_left (by omega)]; exact hp1) (by rw [List.getElem?_append_left h4]; exact hq)
    ·rw [List.getElem?_append_right h4] at hq
     have e2:k+1 - fs.length=0:=by omega
     rw [e2] at hq; simp at hq; subst hq
     exact hch p1 f (by rw [List.getElem?_append_left (by omega)]; exact hp1) (by rw [List.getElem?_append_right h4,e2]; rfl)
   ·rw [List.getElem?_append_right (by simp; omega)] at hq
    have e2:k+1 - (fs ++ [{ f with own:=own,pc:=f.pc+1 }]).length=0:=by simp; omega
    rw [e2] at hq; simp at hq; subst hq
    rw [List.getElem?_append_right (by omega)] at hp1
    have e3:k - fs.length=0:=by omega
    rw [e3] at hp1; simp at hp1; subst hp1
    rw [hgd]
    exact ⟨hdst.1,by simp only []; omega,hd0 hs⟩
  ·rw [hhold]; exact h.kept a ((hK a).1 ha)
  ·rw [hhold]; exact h.unkept a fun h3=>ha ((hK a).2 h3)
 by_cases e9:x.op=9
 ·rw [if_pos e9]
  rw [if_neg (by omega),if_neg (by omega),if_neg e6,if_pos (by omega)] at hOp
  obtain ⟨q,hq0,hq1,hq2⟩:=hOp
  have ht:taken im x=unlent im x 0 x.args:=by unfold taken; rw [if_neg (by omega),if_neg (by omega),if_pos (by omega)]
  refine hmid s.heap (hless (Or.inl e9)) (by omega) (by omega) (q0r im x.num x.dst (words f x.args)) (qee h.image hq0 hq1 (by simp [words,hq2]) hwreg) (by unfold Sets; omega) rfl (HE.congr fun b=>?_) h.trimmed (fun _=>Iff.rfl) (q9z _ _ _ _)
  rw [q1u,ht]
  simp only [owns]
  rw [qbo,qk1]; omega
 rw [if_neg e9]
 by_cases e24:x.op=24
 ·rw [if_pos e24]
  rw [if_neg (by omega),if_neg (by omega),if_neg e6,if_pos (by omega)] at hOp
  obtain ⟨q,hq0,hq1,hq2⟩:=hOp
  have ht:taken im x=unlent im x 0 x.args:=by unfold taken; rw [if_neg (by omega),if_neg (by omega),if_pos (by omega)]
  obtain ⟨hz1,hz2⟩:=hm.zero (Or.inl e24)
  have hhold:∀ b,holds (fs ++ [q0r im x.num f.dst (words f x.args)]) b=holds s.frames b:=fun b=>by
   rw [hf,q1d,q1d,q9z,q2j,q59 (fun hw=>by have:=hz2 _ hw; omega)]
  have hls:=hless (Or.inr (Or.inr e24))
  refine h.top hr hf (hd:=rfl) (qee h.image hq0 hq1 (by simp [words,hq2]) hwreg) (HE.congr fun b=>?_) h.trimmed (fun a ha=>by rw [hhold]; exact h.kept a ha) (fun a ha=>by rw [hhold]; exact h.unkept a ha) h.out (calls:=s.calls+1) (by omega)
  rw [q1u,q3w,qbo,qk1,ht,q8z hz1]; omega
 rw [if_neg e24]
 by_cases e11:x.op=11
 ·rw [if_pos e11]
  rw [if_pos (by omega)] at hOp
  have ht:taken im x=x.args:=by unfold taken; rw [if_pos (by omega)]
  have hargs:x.args=[at' x.args 0,at' x.args 1]:=by
   cases hx:x.args with
   | nil=>rw [hx] at hOp; simp at hOp
   | cons y l=>cases l with
    | nil=>rw [hx] at hOp; simp at hOp
    | cons z l=>cases l with
     | nil=>rfl
     | cons _ _=>rw [hx] at hOp; simp at hOp
  have ha1:0<=at' x.args 1/\at' x.args 1 < f.regs.length:=hArg _ (q18 (by omega) (by omega))
  obtain ⟨hl,ht0,ht1,hpar,hlen,hfit⟩:=hm.apply e11
  obtain ⟨hc,hp2⟩:=q0i hl
  obtain ⟨q,hq⟩:=q00 (l:=im.procs) (k:=((q01 s.heap (at' f.regs (at' x.args 0))).tag - q0j im).toNat) (by omega)
  have hqe:q0y im ((q01 s.heap (at' f.regs (at' x.args 0))).tag - q0j im)=q:=by simp [q0y,hq]
  rw [hqe] at hpar hlen
  have hEt:∀ b,occ ((taken im x).map (at' f.regs)) b=(if b=ix (at' f.regs (at' x.args 0)) then 1 else 0)+occ [at' f.regs (at' x.args 1)] b:=fun b=>by
   rw [ht,hargs]
   simp only [List.map_cons,List.map_nil]
   rw [q2p]
   ·rfl
   ·exact hl.1
  obtain ⟨k1,k2,k3⟩:=HE.apart hl (by simp only [hEt,if_pos]; have:=hEn (ix (at' f.regs (at' x.args 0))); have:=occ_nn [at' f.regs (at' x.args 1)] (ix (at' f.regs (at' x.args 0))); omega) hfit
   (e':=owns (fs ++ [{ f with own:=own,pc:=f.pc+1 },q0r im ((q01 s.heap (at' f.regs (at' x.args 0))).tag - q0j im) x.dst ((q01 s.heap (at' f.regs (at' x.args 0))).fields ++ [at' f.regs (at' x.args 1)])])) (fun b=>by
    rw [q1u,hEt]
    simp only [owns]
    rw [qbo,hqe,List.length_eq_zero_iff.1 hlen,qm7,q4g]; omega) h.trimmed
  refine hmid _ (hless (Or.inr (Or.inl e11))) (by omega) (by omega) _ (qee h.image ht0 hq (by simp; omega) fun w hw=>?_) (by unfold Sets; omega) rfl k1 k3 k2 (q9z _ _ _ _)
  rcases List.mem_append.1 hw with hw | hw
  ·rcases ((HE.cell _ (q05 hc)).alive hp2).1 w hw with h2 | h2
   ·exact Or.inl h2
   ·exact Or.inr h2.1
  ·simp at hw; subst hw; exact hreg _ ha1.1 ha1.2
 rw [if_neg e11]
 -- a return
 have e23:x.op=23:=by
  rw [if_neg (by omega)] at hOp
  by_cases e23:x.op=23
  ·exact e23
  ·rw [if_neg (by omega),if_neg e6,if_neg (by omega),if_neg e10,if_neg e16,if_neg e19,if_neg e20,if_neg e22,if_neg e21] at hOp
   exact hOp.elim
 rw [if_neg (by omega),if_pos (by omega)] at hOp
 have ha:=arg0 (by omega)
 have ht:taken im x=[at' x.args 0]:=by unfold taken; rw [if_pos (by omega)]; exact args1 (by omega)
 obtain ⟨hz1,hz2⟩:=hm.zero (Or.inr e23)
 have hholdf:∀ b,holds [f] b=0:=fun b=>by rw [q2j]; exact q59 (fun hw=>by have:=hz2 _ hw; omega)
 split
 ·rename_i hlast
  have hfs:fs=[]:=List.getLast?_eq_none_iff.1 hlast
  subst hfs
  have hret:=hm.ret e23
  have hint:=hlt1000 _ ha.1 ha.2 (by rcases hret with h1 | h1; (rw [hf] at h1; simp at h1); exact h1)
  have hc0:=h.calls
  refine ⟨h.image,⟨by simp,by simp⟩,by simp,hint,by simp,h.most,h.calls,by simp; omega,h.out,HE.congr fun b=>?_,h.trimmed,by simp,by simp,by simp,fun a ha2=>?_,fun a ha2=>?_⟩
  ·rw [ht,q8z hz1]
   simp only [owns,List.map_cons,List.map_nil]
   rw [q59 (by simp; have:=hint.2; omega)]; rfl
  ·have h1:=h.kept a ha2
   rw [hf] at h1
   have h2:=hholdf a
   simp only [List.nil_append] at h1
   omega
  ·simp [holds]
 ·rename_i pf hlast
  have hfs:fs=fs.dropLast ++ [pf]:=by
   have hne:fs ≠ []:=fun e=>by rw [e] at hlast; simp at hlast
   rw [List.getLast?_eq_some_getLast hne] at hlast
   simp at hlast
   rw [← hlast]; exact (List.dropLast_concat_getLast hne).symm
  generalize fs.dropLast=fs' at hfs
  subst hfs
  have hPF:FrameOk im pf:=hfsok pf (by simp)
  obtain ⟨hdd0,hdd1,hdd2⟩:=h.chain fs'.length pf f (by rw [hf]; simp) (by rw [hf]; simp)
  have hdr:f.dst < pf.regs.length:=by have:=hPF.lr; have:=hPF.lo; omega
  have hc0:=h.calls
  have hdep:=h.depth
  rw [hf] at hdep
  have hhold:∀ b,holds (fs' ++ [pf.put f.dst (at' f.regs (at' x.args 0)) (q1g (at' f.regs (at' x.args 0)))]) b=holds s.frames b:=fun b=>by
   rw [hf,q1d,q1d,hholdf,q1d,q2j,q2j]; simp [Frame.put]
  refine ⟨h.image,h.status,⟨fun e=>by simp at e; omega,fun e=>by simp at e⟩,h.value,h.value0,h.most,h.calls,by simp at hdep ⊢; omega,h.out,HE.congr fun b=>?_,h.trimmed,fun q hq=>?_,fun q hq=>?_,fun k p1 q hp1 hq=>?_,fun a ha2=>by rw [hhold]; exact h.kept a ha2,fun a ha2=>by rw [hhold]; exact h.unkept a ha2⟩
  ·rw [q1u,q3w,q1u,q3w,ht,q8z hz1]
   simp only [Frame.put,List.map_cons,List.map_nil]
   rw [qpz hdd0 hdr hdd1 hdd2,qcg]; omega
  ·rcases List.mem_append.1 hq with hq | hq
   ·exact hfsok q (List.mem_append_left _ hq)
   ·simp at hq; subst hq
    exact hPF.put hdd0 (hreg _ ha.1 ha.2) (qie _) qga
  ·have hfirst:=h.first
   rw [hf] at hfirst
   cases fs' with
   | nil=>simp at hq; subst hq; exact hfirst pf (by simp)
   | cons y ys=>simp at hq; subst hq; exact hfirst y (by simp)
  ·have hch:=h.chain k
   rw [hf] at hch
   simp only [] at hp1 hq
   have hkl:=q04 hq
   simp at hkl
   rw [List.getElem?_append_left (by omega)] at hp1
   have e1:(fs' ++ [pf] ++ [f])[k]?=some p1:=by rw [List.getElem?_append_left (by simp; omega),List.getElem?_append_left (by omega)]; exact hp1
   rcases Nat.lt_or_ge (k+1) fs'.length with h3 | h3
   ·rw [List.getElem?_append_left h3] at hq
    exact hch p1 q e1 (by rw [List.getElem?_append_left (by simp; omega),List.getElem?_append_left h3]; exact hq)
   ·rw [List.getElem?_append_right h3] at hq
    have e2:k+1 - fs'.length=0:=by omega
    rw [e2] at hq; simp at hq; subst hq
    exact hch p1 pf e1 (by rw [List.getElem?_append_left (by simp; omega),List.getElem?_append_right h3,e2]; rfl)
theorem qs5 {im:Image} {s:St} (h:StateOk im s):StateOk im (step im s):=by
 unfold step
 by_cases hr:s.status=3
 ·rw [if_neg (by simpa using hr)]
  obtain ⟨fs,f,hf⟩:=h.split hr
  have e1:s.frames.getLast?=some f:=by rw [hf]; simp
  have e2:s.frames.dropLast=fs:=by rw [hf]; simp
  rw [e1,e2]
  simp only []
  have other:∀ n,1<=n->n<=2->StateOk im { s with status:=n }:=fun n h1 h2 =>
   ⟨h.image,⟨by simp only []; omega,by simp only []; omega⟩,⟨fun e=>by simp only [] at e; omega,fun e=>by simp only [] at e; rw [hf] at e; simp at e⟩,h.value,fun hv=>by have:=h.value0 hv; omega,h.most,h.calls,h.depth,h.out,h.heap,h.trimmed,h.frames,h.first,h.chain,h.kept,h.unkept⟩
  split
  ·exact other 1 (by omega) (by omega)
  ·rename_i hcall
   split
   ·rename_i hm; exact qsg h hr hf hm hcall
   ·exact other 2 (by omega) (by omega)
 ·rw [if_pos (by simpa using hr)]; exact h
end
section
def rem (im:Image):List Frame->Int
 | []=>0
 | f :: fs=>((q0y im f.proc).code.length - f.pc)+rem im fs
noncomputable def steps (im:Image):Nat->St->St
 | 0,s=>s
 | n+1,s=>steps im n (step im s)
theorem qmu {im:Image}:∀ (n:Nat) {s:St},StateOk im s->StateOk im (steps im n s)
 | 0,s,h=>h
 | n+1,s,h=>qmu n (qs5 h)
theorem qdj {im:Image} {s:St} (h:s.status ≠ 3):step im s=s:=by unfold step; rw [if_pos h]
end
end Go.Proofs.YtpggcodlaajceaaGreat
