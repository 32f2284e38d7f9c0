/- Part of a proof, joined by a program: Pl7 Ms10 Ms11 Mi1 Mi2 Mi3 Mi4 Mi5 Mi6. -/
import Derived.Test.YtpggcodlaajceaaGreatU07
import Derived.Test.YtpggcodlaajceaaGreatU08
set_option linter.unusedVariables false
set_option linter.unusedSimpArgs false
namespace Go.Proofs.YtpggcodlaajceaaGreat
open Go.Vc
section
structure Sm (n:Nat) (s:St):Prop where
 heap:s.heap.length<=n
 out:s.out.length<=n
 fit:∀ g ∈ s.frames,∀ w ∈ g.regs,w<=9223372036854775807
theorem qec:∀ (n:Nat) (h:List Cell) (st:List Int),bulk h+st.length<=n->(dropS h st).length=h.length
 | n,h,[],_=>by rw [qbg]
 | 0,h,w :: r,hn=>by simp at hn
 | n+1,h,w :: r,hn=>by
  simp only [List.length_cons] at hn
  rcases Classical.em (live h w) with hl | hl
  ·obtain ⟨hc,hp⟩:=q0i hl
   by_cases h1:(q01 h w).count=1
   ·have hbk:=q3w (c':=free) hc
    simp only [if_pos hp,free] at hbk
    simp at hbk
    rw [qbe hl h1,qec n _ _ (by simp [free]; omega)]; simp
   ·have hbk2:=q3w (c':={ q01 h w with count:=(q01 h w).count - 1 }) hc
    simp only [if_pos hp] at hbk2
    rw [if_pos (by omega)] at hbk2
    rw [q9a hl h1,qec n _ _ (by simp only [less]; omega)]; simp [less]
  ·rw [q9p hl,qec n _ _ (by omega)]
theorem qro (h:List Cell):(trim h).length<=h.length:=by unfold trim; simp; omega
theorem refer_len':∀ (ws:List Int) (g:List Cell),(refer g ws).length=g.length
 | [],g=>rfl
 | w :: ws,g=>by rw [refer,refer_len' ws]; simp [bump]
theorem qps (h:List Cell) (w:Int):(apart h w).length<=h.length:=by
 unfold apart
 split
 ·exact Nat.le_trans (qro _) (by simp)
 ·rw [refer_len']; simp [less]
theorem qpw (h:List Cell) (a:Nat) (c:Cell):(place h a c).length<=h.length+1:=by
 unfold place; split <;> simp
theorem qsu {im:Image} {s:St} {fs:List Frame} {f:Frame} {x:Instr} (C:Cur im s fs f x) {n:Nat} (hS:Sm n s) (hn:n<=900000000) (own:List Int) (hM:MayRun im s f x own):Sm (n+1) (perform im s fs f x own):=by
 have hh:=hS.heap
 have ho:=hS.out
 have hfit:=hS.fit
 rw [C.fr] at hfit
 have hF:=C.F
 have h4:=C.args4
 have hd:=C.dst
 have hlens:=C.lens
 have regle:∀ r,at' f.regs r<=9223372036854775807:=fun r=>by
  rcases Nat.lt_or_ge r.toNat f.regs.length with h1 | h1
  ·obtain ⟨y,hy⟩:=q00 h1
   rw [at_of' hy]; exact hfit f (by simp) y (q05 hy)
  ·rw [at',List.getD_eq_getElem?_getD,List.getElem?_eq_none h1]; simp
 have outer:∀ g ∈ fs,∀ w ∈ g.regs,w<=9223372036854775807:=fun g hg=>hfit g (by simp [hg])
 have fo:∀ {g:Frame},(∀ w ∈ g.regs,w<=9223372036854775807)->∀ q ∈ fs ++ [g],∀ w ∈ q.regs,w<=9223372036854775807:=fun hg q hq=>by
  rcases List.mem_append.1 hq with hq | hq
  ·exact outer q hq
  ·simp at hq; subst hq; exact hg
 have same:∀ w ∈ f.regs,w<=9223372036854775807:=hfit f (by simp)
 have put:∀ (v:Int),v<=9223372036854775807->∀ w ∈ setI f.regs x.dst v,w<=9223372036854775807:=fun v hv w hw=>by
  rcases q5k hw with rfl | hw
  ·exact hv
  ·exact same w hw
 have wordle:∀ {w},isInt w \/ live s.heap w->w<=9223372036854775807:=fun h=>by
  rcases h with h | h
  ·have:=h.2; omega
  ·have h1:=q04 (q0i h).1
   unfold ix at h1
   omega
 have newle:∀ (g dst:Int) (ws:List Int),(∀ w ∈ ws,w<=9223372036854775807)->∀ w ∈ (q0r im g dst ws).regs,w<=9223372036854775807:=fun g dst ws hw w h=>by
  simp only [q0r] at h
  rcases List.mem_append.1 h with h | h
  ·exact hw w h
  ·rw [q8y h]; omega
 have two:∀ {g q:Frame},(∀ w ∈ g.regs,w<=9223372036854775807)->(∀ w ∈ q.regs,w<=9223372036854775807)->∀ z ∈ fs ++ [g,q],∀ w ∈ z.regs,w<=9223372036854775807:=fun hg hq z hz=>by
  rcases List.mem_append.1 hz with hz | hz
  ·exact outer z hz
  ·simp at hz
   rcases hz with rfl | rfl
   ·exact hg
   ·exact hq
 have wds:∀ w ∈ words f x.args,w<=9223372036854775807:=fun w hw=>by
  obtain ⟨r,_,rfl⟩:=List.mem_map.1 hw
  exact regle r
 have hfi:=q6s s.heap
 unfold perform
 simp only []
 by_cases e0:x.op=0
 ·rw [if_pos e0]; exact ⟨by simp only []; omega,by simp only []; omega,fo (put _ (by have:=h4.2.2.2.2.2.2 e0; omega))⟩
 rw [if_neg e0]
 by_cases e1:x.op=1 \/ x.op=2 \/ x.op=3 \/ x.op=4
 ·rw [if_pos e1]; exact ⟨by simp only []; omega,by simp only []; omega,fo (put _ (by have:=(qrp x.op (at' f.regs (at' x.args 0)) (at' f.regs (at' x.args 1))).2; omega))⟩
 rw [if_neg e1]
 by_cases e5:x.op=5
 ·rw [if_pos e5]; exact ⟨by simp only []; omega,by simp; omega,fo (put _ (regle _))⟩
 rw [if_neg e5]
 by_cases e6:x.op=6
 ·rw [if_pos e6]
  split
  ·refine ⟨by simp; omega,by simp only []; omega,fo (put _ ?_)⟩
   rename_i hin
   have h6:=h4.2.2.2.2.1 e6
   obtain ⟨q1,dd,q2,_⟩:=C.keptAt _ (q18 (l:=f.held) (i:=x.into - 1) (by omega) (by omega)) hin.2
   have:=q04 q2
   unfold ix at this
   omega
  ·refine ⟨?_,by simp only []; omega,fo (put _ (by omega))⟩
   have:=qpw s.heap (q0t s.heap) ⟨1,x.num,words f x.args⟩
   simp only []; omega
 rw [if_neg e6]
 by_cases e10:x.op=10
 ·rw [if_pos e10]
  refine ⟨?_,by simp only []; omega,fo (put _ (by omega))⟩
  have:=qpw s.heap (q0t s.heap) ⟨1,q0j im+x.num,words f x.args⟩
  simp only []; omega
 rw [if_neg e10]
 by_cases e14:x.op=14
 ·rw [if_pos e14]; exact ⟨by simp [bump]; omega,by simp only []; omega,fo same⟩
 rw [if_neg e14]
 by_cases e15:x.op=15
 ·rw [if_pos e15]
  refine ⟨?_,by simp only []; omega,fo same⟩
  have h1:=qro (dropS s.heap [at' f.regs (at' x.args 0)])
  rw [qec _ _ _ (Nat.le_refl _)] at h1
  simp only []; omega
 rw [if_neg e15]
 by_cases e16:x.op=16 \/ x.op=17
 ·rw [if_pos e16]
  split
  ·exact ⟨by simp; omega,by simp only []; omega,fo same⟩
  ·refine ⟨?_,by simp only []; omega,fo same⟩
   have:=qps s.heap (at' f.regs (at' x.args 0))
   simp only []; omega
 rw [if_neg e16]
 by_cases e18:x.op=18
 ·rw [if_pos e18]; exact ⟨by simp only []; omega,by simp only []; omega,fo (put _ (regle _))⟩
 rw [if_neg e18]
 by_cases e19:x.op=19
 ·rw [if_pos e19]
  refine ⟨by simp only []; omega,by simp only []; omega,fo (put _ ?_)⟩
  obtain ⟨hlv,hnum⟩:=hM.load e19
  obtain ⟨p,_,_,_,_,hI⟩:=C.I
  have hOp:=hI.op
  unfold OpOk at hOp
  rw [if_neg (by omega),if_neg (by omega),if_neg (by omega),if_neg (by omega),if_neg (by omega),if_neg (by omega),if_neg (by omega),if_pos e19] at hOp
  obtain ⟨hc,hp⟩:=q0i hlv
  exact wordle (((C.ok.heap.cell _ (q05 hc)).alive hp).1 _ (q18 hOp.2.1 hnum))
 rw [if_neg e19]
 by_cases e20:x.op=20
 ·rw [if_pos e20]; exact ⟨by simp only []; omega,by simp only []; omega,fo same⟩
 rw [if_neg e20]
 by_cases e21:x.op=21
 ·rw [if_pos e21]; exact ⟨by simp only []; omega,by simp only []; omega,fo same⟩
 rw [if_neg e21]
 by_cases e22:x.op=22
 ·rw [if_pos e22]; exact ⟨by simp only []; omega,by simp only []; omega,fo same⟩
 rw [if_neg e22]
 by_cases e9:x.op=9
 ·rw [if_pos e9]; exact ⟨by simp only []; omega,by simp only []; omega,two same (newle _ _ _ wds)⟩
 rw [if_neg e9]
 by_cases e24:x.op=24
 ·rw [if_pos e24]; exact ⟨by simp only []; omega,by simp only []; omega,fo (newle _ _ _ wds)⟩
 rw [if_neg e24]
 by_cases e11:x.op=11
 ·rw [if_pos e11]
  refine ⟨?_,by simp only []; omega,two same (newle _ _ _ fun w hw=>?_)⟩
  ·have:=qps s.heap (at' f.regs (at' x.args 0))
   simp only []; omega
  ·rcases List.mem_append.1 hw with hw | hw
   ·obtain ⟨hlv,_⟩:=hM.apply e11
    obtain ⟨hc,hp⟩:=q0i hlv
    exact wordle (((C.ok.heap.cell _ (q05 hc)).alive hp).1 _ hw)
   ·simp at hw; subst hw; exact regle _
 rw [if_neg e11]
 split
 ·exact ⟨by simp only []; omega,by simp only []; omega,by simp⟩
 ·rename_i pf hlast
  refine ⟨by simp only []; omega,by simp only []; omega,fun q hq=>?_⟩
  have hpf:pf ∈ fs:=List.mem_of_getLast? hlast
  rcases List.mem_append.1 hq with hq | hq
  ·exact outer q ((List.dropLast_sublist fs).subset hq)
  ·simp at hq; subst hq
   intro w hw
   rcases q5k hw with rfl | hw
   ·exact regle _
   ·exact outer pf hpf w hw
theorem qua {im:Image} {s:St} (h:StateOk im s) {n:Nat} (hS:Sm n s) (hn:n<=900000000):Sm (n+1) (step im s):=by
 have hweak:Sm (n+1) s:=⟨by have:=hS.heap; omega,by have:=hS.out; omega,hS.fit⟩
 by_cases hr:s.status=3
 ·obtain ⟨fs,f,hf⟩:=h.split hr
  have hlf:s.frames.getLast?=some f:=by rw [hf]; simp
  have hdl:s.frames.dropLast=fs:=by rw [hf]; simp
  have C:Cur im s fs f (q14 im f):=⟨h,hr,hf,rfl,hS.fit⟩
  unfold step
  rw [if_neg (by simpa using hr),hlf,hdl]
  simp only []
  split
  ·exact ⟨hweak.heap,hweak.out,hweak.fit⟩
  split
  ·rename_i hM; exact qsu C hS hn _ hM
  ·exact ⟨hweak.heap,hweak.out,hweak.fit⟩
 ·rw [q9n hr]; exact hweak
theorem qdi {im:Image}:∀ (k:Nat) {s:St} {n:Nat},StateOk im s->Sm n s->n+k<=900000000->Sm (n+k) (steps im k s)
 | 0,s,n,_,hS,_=>hS
 | k+1,s,n,h,hS,hn=>by
  have:=qdi k (qsf h) (qua h hS (by omega)) (by omega)
  rw [steps]
  have e:n+(k+1)=n+1+k:=by omega
  rw [e]; exact this
end
section
section
variable {m0:Mem} {ro:Nat->Nat} {m:Mem} {mb:Nat} {d p out hp fr:Sl} {s:St}
theorem qs6 {im:Image} (L:Lay m0 ro m mb q0l (SB d p s out hp fr) out hp fr s.out s.heap s.frames) (him:ImageR m0 d p im) (hok:StateOk im s) {n0:Nat} (hS:Sm n0 s) (many:Nat) (hmany:many<=100000) (hn0:n0<=500000000) :
  q08 Tryz.prog q6t [vp mb 0,vi many] m fun v m'=>(∃ n:Int,v=vi n)/\SFin m0 ro m mb d p (steps im many s) m':=by
 apply qeq (mb,0)
 refine ⟨fun i m'=>∃ k:Nat,i=k/\k<=many/\SFin m0 ro m mb d p (steps im k s) m',fun i _=>((many:Int) - i).toNat,⟨0,rfl,Nat.zero_le _,ro,out,hp,fr,L,Chg.refl _ L.new⟩,?_⟩
 rintro i m1 ⟨k,rfl,hk,ro1,out1,hp1,fr1,L1,t1⟩
 have hok1:=qdk k hok
 have hS1:=qdi k hok hS (by omega)
 refine ⟨fun h1=>?_,fun h1=>?_⟩
 ·simp only [decide_eq_true_eq] at h1
  refine ⟨_,L1.box.get 2,fun h2=>?_,fun h2=>?_⟩
  ·refine (qrh L1 him hok1 hS1.fit (by have:=hS1.heap; omega) (by have:=hS1.out; omega)).mono ?_
   rintro _ m2 hfin
   have e:w64 ((k:Int)+1)=((k+1:Nat):Int):=q6l (n:=many) (by omega) (by omega)
   rw [e]
   refine ⟨⟨k+1,rfl,by omega,by rw [qge]; exact hfin.from t1⟩,?_⟩
   show ((many:Int) - ((k+1:Nat):Int)).toNat < ((many:Int) - (k:Int)).toNat
   omega
  ·simp at h2
   have e:steps im many s=steps im k s:=by
    have h3:many=k+(many - k):=by omega
    have add:∀ (a b:Nat) (s:St),steps im (a+b) s=steps im b (steps im a s):=by
     intro a
     induction a with
     | zero=>intro b s; simp [steps]
     | succ a ih=>intro b s; rw [Nat.succ_add]; simp only [steps]; exact ih b _
    rw [h3,add,qbz _ h2]
   rw [e]
   exact ⟨⟨_,rfl⟩,ro1,out1,hp1,fr1,L1,t1⟩
 ·simp only [decide_eq_false_iff_not] at h1
  have:k=many:=by omega
  subst this
  exact ⟨⟨_,rfl⟩,ro1,out1,hp1,fr1,L1,t1⟩
end
end
section
structure Exe where
 status:Int
 value:Int
 calls:Int
 out:List Int
 ok:Bool
end
section
theorem q1k {m:Mem} {s:Sl} {l:List Int} (hl:q03 m s l) (hsm:l.length<=1000000000):GivesI q11 [Sl.v s] m l:=by
 apply qc3
 have hll:=hl.len
 refine ⟨fun h=>?_,fun h=>?_⟩
 ·cases s with
  | nil=>simp at hll; have:l=[]:=List.length_eq_zero_iff.1 hll.symm; subst this; exact ⟨.nil,rfl,Own.nil _ _ _ _,Ext.refl _⟩
  | mk b o len cap=>simp at h
  | emp b o sp=>simp at h
 ·intro m1
  have h1:Ext m m1:=(Ext.refl m).pushed _
  have ho:Own m m1 ty_int 1 (.mk m.size 0 0 0) []:=Own.new (Ext.refl m) ty_int 1 [] 0 (by simp)
  refine Own.append (zs:=[.i 0]) (new:=l.map Ce.i) ho h1 (by simp [hll]) (hl.ext h1).rows (by simp; omega) fun r m' h1 h2 h3 h4 h5 h6=>⟨r,rfl,by simpa using h1,h2⟩
theorem q9z {m:Mem} {s:Sl} {l:List Int} (hl:q03 m s l) (n:Int):q08 Tryz.prog q3z [Sl.v s,vi n] m fun v m'=>∃ r:Int,v=vi r/\Ext m m'/\((r=-1/\n ∉ l) \/ (n ∈ l/\r=idxOf l n)):=by
 apply qbl
 have hll:=hl.len
 refine forI (n:=l.length) (hll ▸ hl.lim) (fun k m'=>Ext m m'/\n ∉ l.take k) ⟨Ext.refl _,by simp⟩ ?_
 rintro k m1 I μ hk ⟨hx,hn⟩ next
 refine ⟨fun h=>?_,fun h=>?_⟩
 ·simp only [decide_eq_true_eq] at h
  obtain ⟨x,hx1⟩:=q00 (l:=l) (k:=k) (by omega)
  refine ⟨by omega,by omega,x,by simpa using hx.gcell (hl.at' hx1),fun h2=>?_,fun h2=>next (by omega) _ ⟨hx,?_⟩⟩
  ·simp at h2; subst h2
   refine ⟨_,rfl,hx,Or.inr ⟨q05 hx1,?_⟩⟩
   have:idxOf l n=k:=by
    unfold idxOf
    rw [List.findIdx_eq (q04 hx1)]
    refine ⟨by have:=(List.getElem?_eq_some_iff.1 hx1).2; simp [this],fun j hj=>?_⟩
    simp
    intro e
    apply hn
    rw [← e]
    exact List.mem_take_iff_getElem.2 ⟨j,by omega,rfl⟩
   rw [this]
  ·rw [q06 hx1]
   simp at h2
   intro hm
   rcases List.mem_append.1 hm with hm | hm
   ·exact hn hm
   ·simp at hm; exact h2 hm
 ·simp only [decide_eq_false_iff_not] at h
  rw [q0b (by omega)] at hn
  exact ⟨_,rfl,hx,Or.inl ⟨rfl,hn⟩⟩
theorem q57 {m:Mem} {s:Sl} {l:List Int} (hl:q03 m s l) (n:Int):q0o Tryz.prog q2n [Sl.v s,vi n] m (n ∈ l):=by
 apply q9x
 refine (q9z hl n).mono ?_
 rintro _ m1 ⟨r,rfl,hx,h⟩
 refine ⟨_,rfl,retB ?_ hx⟩
 simp only [ge_iff_le,decide_eq_true_eq]
 rcases h with ⟨rfl,h⟩ | ⟨h1,h2⟩
 ·exact ⟨fun h'=>by omega,fun h'=>absurd h' h⟩
 ·exact ⟨fun _=>h1,fun _=>by omega⟩
theorem qhs {m:Mem} {s t:Sl} {l r:List Int} (hl:q03 m s l) (hr:q03 m t r):q0o Tryz.prog q52 [Sl.v s,Sl.v t] m (l=r):=by
 apply qc7
 have hll:=hl.len
 have hrl:=hr.len
 refine ⟨fun h=>retF (fun e=>by subst e; simp at h; omega) (Ext.refl _),fun h=>?_⟩
 simp at h
 refine forI (n:=l.length) (hll ▸ hl.lim) (fun k m'=>Ext m m'/\l.take k=r.take k) ⟨Ext.refl _,by simp⟩ ?_
 rintro k m1 I μ hk ⟨hx,hn⟩ next
 refine ⟨fun h=>?_,fun h=>retT (by simp at h; rwa [q0b (by omega),q0b (by omega)] at hn) hx⟩
 simp only [decide_eq_true_eq] at h
 obtain ⟨x,hx1⟩:=q00 (l:=l) (k:=k) (by omega)
 obtain ⟨y,hy1⟩:=q00 (l:=r) (k:=k) (by omega)
 refine ⟨by omega,by omega,x,by simpa using hx.gcell (hl.at' hx1),by omega,by omega,y,by simpa using hx.gcell (hr.at' hy1),fun h2=>retF (fun e=>?_) hx,fun h2=>next (by omega) _ ⟨hx,?_⟩⟩
 ·subst e; rw [hx1] at hy1; simp at hy1; simp at h2; exact h2 hy1
 ·rw [q06 hx1,q06 hy1,hn]; simp at h2; rw [h2]
theorem q2f {m:Mem} {hp:Sl} {h:List Cell} (hh:q0h m hp h) {w:Int} (hw:w<=9223372036854775807) :
  q08 Tryz.prog q24 [Sl.v hp,vi w] m fun v m'=>∃ (a:Int) (b:Bool),v=.tuple #[vi a,vb b]/\(b=true ↔ live h w)/\(b=true->a=ix w)/\Ext m m':=by
 apply qll
 have hl:=hh.len
 have hlim:=hh.lim
 refine ⟨fun h1=>?_,fun h1=>?_⟩
 ·simp at h1
  have e:w64 (w - 1000)=w - 1000:=q07 (by omega) (by omega)
  have hix:(ix w:Int)=w - 1000:=by unfold ix; omega
  rw [e]
  refine ⟨fun h2=>?_,fun h2=>?_⟩
  ·simp at h2
   obtain ⟨c,hc⟩:=q00 (l:=h) (k:=(w - 1000).toNat) (by omega)
   obtain ⟨f,hf,g0,_⟩:=hh.at' hc
   refine ⟨by omega,by omega,c.count,g0,_,_,rfl,?_,fun _=>hix.symm,Ext.refl _⟩
   simp only [gt_iff_lt,decide_eq_true_eq]
   refine ⟨fun hp=>⟨h1,c,hc,hp⟩,fun ⟨_,c',hc',hp⟩=>?_⟩
   unfold ix at hc'
   rw [hc] at hc'; simp at hc'; subst hc'; exact hp
  ·simp at h2
   refine ⟨_,_,rfl,⟨fun h=>by simp at h,fun ⟨_,c,hc,_⟩=>?_⟩,fun h=>by simp at h,Ext.refl _⟩
   have:=q04 hc
   omega
 ·simp at h1
  exact ⟨_,_,rfl,⟨fun h=>by simp at h,fun hl=>by have:=hl.1; omega⟩,fun h=>by simp at h,Ext.refl _⟩
theorem qpb {m:Mem} {mb:Nat} {hp:Sl} {h:List Cell} (hg:gcell m mb 8=some (Sl.v hp)) (hh:q0h m hp h) {w:Int} (hw:w<=9223372036854775807):q0o Tryz.prog q5g [vp mb 0,vi w] m (live h w):=by
 apply qcg (mb,0)
 refine ⟨hp,hg,(q2f hh hw).mono ?_⟩
 rintro _ m1 ⟨a,b,rfl,hb,_,hx⟩
 exact ⟨a,b,rfl,retB hb hx⟩
theorem qj7 {m:Mem} {s:Sl} {l:List Int} (hl:q03 m s l) (hsm:l.length<=100000000):GivesI q7i [Sl.v s] m (ptrs l):=by
 apply qf4
 have hll:=hl.len
 refine forSI (n:=l.length) (by omega) (fun k s m'=>Ext m m'/\Own m m' ty_int 1 s ((ptrs (l.take k)).map Ce.i)) ⟨Ext.refl _,by simpa [ptrs] using Own.nil m m ty_int 1⟩ ?_
 rintro k s m2 I μ hk ⟨hx,ho2⟩ next
 refine ⟨fun h=>?_,fun h=>?_⟩
 ·simp only [decide_eq_true_eq] at h
  obtain ⟨x,hx1⟩:=q00 (l:=l) (k:=k) (by omega)
  refine ⟨by omega,by omega,x,by simpa using hx.gcell (hl.at' hx1),fun hbt=>?_,fun hbf=>?_⟩
  ·intro m4
   refine q54 ho2 hx (by have:=q51 (l.take k); simp at this; omega) fun r m5 q1 q2=>next (by omega) _ _ ⟨q2,?_⟩
   rw [q06 hx1,q62]
   have:ptrs [x]=[x]:=by simp at hbt; simp [ptrs,hbt]
   rw [this]; exact q1
  ·refine next (by omega) _ _ ⟨hx,?_⟩
   rw [q06 hx1,q62]
   have:ptrs [x]=[]:=by simp at hbf; simp [ptrs]; omega
   rw [this,List.append_nil]; exact ho2
 ·simp only [decide_eq_false_iff_not] at h
  rw [q0b (by omega)] at ho2
  exact ⟨s,rfl,ho2,hx⟩
theorem qe9 {m:Mem} {s:Sl} {l:List Int} (hl:q03 m s l):q0o Tryz.prog q71 [Sl.v s] m (Zero l):=by
 apply qif
 refine (q37 hl q89 #[] #[] (by decide) (fun x=>x ≠ 0) (fun x _ m' hx=>?_)).then fun b m1 hb hx=>⟨b,rfl,retB ?_ hx⟩
 ·simp only [List.nil_append,List.append_nil]
  apply qg0
  exact retB (by simp) (Ext.refl _)
 ·have h1:(!b)=true ↔ ¬ (b=true):=by simp
  rw [h1,hb]
  unfold Zero
  constructor
  ·intro h n hn
   exact Classical.byContradiction fun h0=>h ⟨n,hn,h0⟩
  ·rintro h ⟨n,hn,h0⟩
   exact h0 (h n hn)
theorem qds {m:Mem} {mb:Nat} {d p:Sl} {im:Image} (him:ImageR m d p im) (g1:gcell m mb 1=some (Sl.v p)) {x:Instr} (hc:CallOk im x) {a j:Sl} (ha:q03 m a x.args) (hsm:x.args.length<=1000000) (h16:(x.op=16 \/ x.op=17)->1<=x.args.length) :
  q08 Tryz.prog q3p [vp mb 0,xv x a j] m fun v m'=>∃ r l,v=.tuple #[Sl.v r,Sl.v l]/\q03 m' r (taken im x)/\q03 m' l (if x.op=9 \/ x.op=24 then q19 im x 0 x.args else [])/\Ext m m'/\(r=.nil \/ r.blk=a.blk \/ m.size<=r.blk)/\(l=.nil \/ m.size<=l.blk):=by
 apply qbc (mb,0)
 simp -zeta only [q0a,q09,rI,rS,rB,cI,cB,cS,dI,dB,dS,gk,rg]
 intro m1
 have hx1:Ext m m1:=(Ext.refl m).pushed _
 have hl:∀ b ∈ [m.size],b < m1.size:=by simp [m1]
 have s1:m1.size=m.size+1:=by simp [m1]
 have hal:=ha.len
 have hac:=ha.cap
 have nilI:q03 m1 .nil []:=⟨rfl,by simp,by simp,by simp⟩
 clear_value m1
 refine ⟨fun e=>?_,fun e1=>⟨fun e=>?_,fun e2=>⟨fun e=>?_,fun e3=>?_⟩⟩⟩
 ·simp only [Bool.or_eq_true,beq_iff_eq] at e
  refine ⟨a,.nil,rfl,?_,by rw [if_neg (by omega)]; exact nilI,hx1,Or.inr (Or.inl rfl),Or.inl rfl⟩
  unfold taken; rw [if_pos (by omega)]; exact ha.ext hx1
 ·simp only [Bool.or_eq_true,beq_iff_eq] at e
  simp only [Bool.or_eq_false_iff,beq_eq_false_iff_ne] at e1
  have h1:=h16 e
  refine ⟨by omega,by omega,by omega,_,.nil,rfl,?_,by rw [if_neg (by omega)]; exact nilI,hx1,Or.inr (Or.inl ?_),Or.inl rfl⟩
  ·unfold taken; rw [if_neg (by omega),if_pos e]
   exact SlOf.cut0 (ha.ext hx1) h1
  ·cases a with
   | nil=>simp at hal; omega
   | emp b o sp=>simp at hal; omega
   | mk b o l c=>rfl
 ·simp only [Bool.or_eq_true,beq_iff_eq] at e
  simp only [Bool.or_eq_false_iff,beq_eq_false_iff_ne] at e1 e2
  obtain ⟨h0,q,hq⟩:=hc e
  have hpl:=him.procs.len
  have hlt:=q04 hq
  have key:∃ (I0:Sl->Sl->Int->Mem->Prop) (μ0:Sl->Sl->Int->Mem->Nat),I0 Sl.nil Sl.nil (0:Int) m1/\(∀ (regs:Sl) (lent:Sl) (i:Int) (m2:Mem),I0 regs lent i m2->∃ k:Nat,i=k/\k<=x.args.length/\Ext m1 m2/\Own m1 m2 ty_int 1 regs ((q2k im x k).map Ce.i)/\Own m1 m2 ty_int 1 lent ((q19 im x 0 (x.args.take k)).map Ce.i)/\(regs ≠ .nil->lent ≠ .nil->regs.blk ≠ lent.blk)) /\
    (∀ (regs lent:Sl) (k:Nat) (m2:Mem),k<=x.args.length->Ext m1 m2->Own m1 m2 ty_int 1 regs ((q2k im x k).map Ce.i)->Own m1 m2 ty_int 1 lent ((q19 im x 0 (x.args.take k)).map Ce.i)->(regs ≠ .nil->lent ≠ .nil->regs.blk ≠ lent.blk)->I0 regs lent k m2)/\(∀ a b i m,μ0 a b i m=((x.args.length:Int) - i).toNat) :=
   ⟨fun regs lent i m2=>∃ k:Nat,i=k/\k<=x.args.length/\Ext m1 m2/\Own m1 m2 ty_int 1 regs ((q2k im x k).map Ce.i)/\Own m1 m2 ty_int 1 lent ((q19 im x 0 (x.args.take k)).map Ce.i)/\(regs ≠ .nil->lent ≠ .nil->regs.blk ≠ lent.blk),fun _ _ i _=>((x.args.length:Int) - i).toNat,
    ⟨0,rfl,Nat.zero_le _,Ext.refl _,by simpa [q2k,unlent] using Own.nil m1 m1 ty_int 1,by simpa [q19] using Own.nil m1 m1 ty_int 1,fun h=>absurd rfl h⟩,fun _ _ _ _ h=>h,fun regs lent k m2 h1 h2 h3 h4 h5=>⟨k,rfl,h1,h2,h3,h4,h5⟩,fun _ _ _ _=>rfl⟩
  obtain ⟨I0,μ0,hI0,hout,hin,hμ⟩:=key
  refine ⟨I0,μ0,hI0,?_⟩
  intro regs lent i m2 hI
  obtain ⟨k,rfl,hk,h12,o1,o2,hne⟩:=hout regs lent i m2 hI
  have hx2:=hx1.trans h12
  refine ⟨fun h=>?_,fun h=>?_⟩
  ·simp only [decide_eq_true_eq] at h
   obtain ⟨y,hy⟩:=q00 (l:=x.args) (k:=k) (by omega)
   obtain ⟨a',l',c',ha',hl',hc',k0,k1,_⟩:=(him.ext hx2).procs.at' hq
   have htk:(x.args.take k).length=k:=by simp; omega
   have hun:q2k im x (k+1)=q2k im x k ++ unlent im x k [y]:=by
    unfold q2k; rw [q06 hy,qbs,htk,Nat.zero_add]
   have hle:q19 im x 0 (x.args.take (k+1))=q19 im x 0 (x.args.take k) ++ q19 im x k [y]:=by
    rw [q06 hy,q80,htk,Nat.zero_add]
   have hlen1:(q2k im x k).length<=k:=Nat.le_trans (q9g _ _ _ _) (by simp; omega)
   have hlen2:(q19 im x 0 (x.args.take k)).length<=k:=by
    have:∀ (l:List Int) (j:Nat),(q19 im x j l).length<=l.length:=by
     intro l
     induction l with
     | nil=>intro j; exact Nat.le_refl _
     | cons z l ih=>intro j; have:=ih (j+1); simp only [q19]; split <;> simp <;> omega
    have:=this (x.args.take k) 0
    omega
   have es:w64 ((k:Int)+1)=((k+1:Nat):Int):=q6l (n:=x.args.length) (by omega) (by omega)
   refine ⟨by omega,by omega,y,by simpa using hx2.gcell (ha.at' hy),p,hx2.gcell g1,h0,by omega,l',k1,(q57 hl' _).thenS h12 hl fun b m3 hb h23 h13=>⟨b,rfl,fun hbt=>?_,fun hbf=>?_⟩⟩
   ·have hli:=(qn4 hq k).2 (hb.1 hbt)
    intro m4
    have s4:m4.size=m3.size+1:=by simp [m4]
    have o1':=o1.ext h23
    have o2':=o2.ext h23
    have hlen:lent.len=(q19 im x 0 (x.args.take k)).length:=by have:=o2.len; simp at this; omega
    refine Own.append (zs:=[.i 0]) (new:=[.i y]) (o2'.ext (Ext.push _ _)) (h13.pushed _) rfl (Blk.push m3 _ _).row (by simp; omega) fun r m5 q1 q2 q3 q4 q5 q6=>⟨Ext.sam2 (h13.pushed _) q2 hl,?_⟩
    rw [es]
    have hs3:=h23.size
    refine ⟨hin _ _ _ _ (by omega) q2 ?_ ?_ ?_,by rw [hμ,hμ]; omega⟩
    ·rw [hun]
     have:unlent im x k [y]=[]:=by simp only [unlent]; rw [if_pos hli]
     rw [this,List.append_nil]
     rcases o1'.lt with e | e
     ·subst e; exact ⟨o1'.len,Or.inl rfl⟩
     ·refine o1'.congr ?_
      rw [q5 _ (show _ < m4.size by omega) (fun hne2=>?_),Array.getElem?_push,if_neg (by omega)]
      by_cases hn:regs=.nil
      ·subst hn
       rcases o2.blk with e3 | e3
       ·exact absurd e3 hne2
       ·simp; omega
      ·exact hne hn hne2
    ·rw [hle]
     have:q19 im x k [y]=[y]:=by simp only [q19]; rw [if_pos hli]
     rw [this]; simpa using q1
    ·intro hn1 hn2
     rcases q6 with e | ⟨e1,e2⟩ | e
     ·exact absurd e hn2
     ·rw [e2]; exact hne hn1 e1
     ·rw [e]
      rcases o1'.lt with e4 | e4
      ·exact absurd e4 hn1
      ·show regs.blk ≠ m4.size; omega
   ·have hli:¬ lentIn im x k=true:=fun hh=>fb hb hbf ((qn4 hq k).1 hh)
    intro m4
    have s4:m4.size=m3.size+1:=by simp [m4]
    have o1':=o1.ext h23
    have o2':=o2.ext h23
    have hlen:regs.len=(q2k im x k).length:=by have:=o1.len; simp at this; omega
    refine Own.append (zs:=[.i 0]) (new:=[.i y]) (o1'.ext (Ext.push _ _)) (h13.pushed _) rfl (Blk.push m3 _ _).row (by simp; omega) fun r m5 q1 q2 q3 q4 q5 q6=>⟨Ext.sam2 (h13.pushed _) q2 hl,?_⟩
    rw [es]
    have hs3:=h23.size
    refine ⟨hin _ _ _ _ (by omega) q2 ?_ ?_ ?_,by rw [hμ,hμ]; omega⟩
    ·rw [hun]
     have:unlent im x k [y]=[y]:=by simp only [unlent]; rw [if_neg hli]
     rw [this]; simpa using q1
    ·rw [hle]
     have:q19 im x k [y]=[]:=by simp only [q19]; rw [if_neg hli]
     rw [this,List.append_nil]
     rcases o2'.lt with e | e
     ·subst e; exact ⟨o2'.len,Or.inl rfl⟩
     ·refine o2'.congr ?_
      rw [q5 _ (show _ < m4.size by omega) (fun hne2=>?_),Array.getElem?_push,if_neg (by omega)]
      by_cases hn:lent=.nil
      ·subst hn
       rcases o1.blk with e3 | e3
       ·exact absurd e3 hne2
       ·simp; omega
      ·exact fun e5=>hne hne2 hn e5.symm
    ·intro hn1 hn2
     rcases q6 with e | ⟨e1,e2⟩ | e
     ·exact absurd e hn1
     ·rw [e2]; exact hne e1 hn2
     ·rw [e]
      rcases o2'.lt with e4 | e4
      ·exact absurd e4 hn2
      ·show m4.size ≠ lent.blk; omega
  ·simp only [decide_eq_false_iff_not] at h
   have hka:x.args.take k=x.args:=q0b (by omega)
   rw [hka] at o2
   unfold q2k at o1
   rw [hka] at o1
   have hul:=q9g im x x.args 0
   have hll2:∀ (l:List Int) (j:Nat),(q19 im x j l).length<=l.length:=by
    intro l
    induction l with
    | nil=>intro j; exact Nat.le_refl _
    | cons z l ih=>intro j; have:=ih (j+1); simp only [q19]; split <;> simp <;> omega
   have hll3:=hll2 x.args 0
   refine ⟨regs,lent,rfl,?_,?_,hx2,?_,?_⟩
   ·unfold taken; rw [if_neg (by omega),if_neg (by omega),if_pos e]; exact q03.ofOwn o1 (by omega)
   ·rw [if_pos e]; exact q03.ofOwn o2 (by omega)
   ·rcases o1.blk with e4 | e4
    ·exact Or.inl e4
    ·exact Or.inr (Or.inr (by omega))
   ·rcases o2.blk with e4 | e4
    ·exact Or.inl e4
    ·exact Or.inr (by omega)
 ·simp only [Bool.or_eq_false_iff,beq_eq_false_iff_ne] at e1 e2 e3
  refine ⟨.nil,.nil,rfl,?_,by rw [if_neg (by omega)]; exact nilI,hx1,Or.inl rfl,Or.inl rfl⟩
  unfold taken; rw [if_neg (by omega),if_neg (by omega),if_neg (by omega)]; exact nilI
end
section
theorem qir:∀ (l:List (Int × Int)) (k v j:Int),mget (mput l k v) j=if j=k then v else mget l j
 | [],k,v,j=>by simp [mput,mget]
 | (a,b) :: r,k,v,j=>by
  simp only [mput]
  split
  ·rename_i h; subst h
   simp only [mget]
   split <;> simp_all
  ·rename_i h
   simp only [mget]
   split
   ·rename_i h2; subst h2; rw [if_neg (fun e=>h e.symm)]
   ·exact qir r k v j
theorem qs4 (l:List Int) (k:Nat) (a:Nat):occ (l.take k) a<=occ l a:=by
 have:occ l a=occ (l.take k) a+occ (l.drop k) a:=by rw [← q4d,List.take_append_drop]
 have:=occ_nn (l.drop k) a
 omega
theorem qct {m:Mem} {mb:Nat} {hp:Sl} {h:List Cell} (hg:gcell m mb 8=some (Sl.v hp)) (hh:q0h m hp h) {e:Nat->Int} (hI:HInv h e) {c:Cell} (hc:c ∈ h) {f:Sl} (hf:q03 m f c.fields) (hhl:h.length<=2000000000) :
  q0o Tryz.prog q29 [vp mb 0,.agg #[vi c.count,vi c.tag,Sl.v f]] m (c.count=1 \/ q43 h c.fields):=by
 apply qb7 (mb,0)
 simp -zeta only [q0a,q09,rI,rS,rB,cI,cB,cS,dI,dB,dS,gk,rg]
 intro m1
 have hx1:Ext m m1:=(Ext.refl m).pushed _
 have s1:m1.size=m.size+1:=by simp [m1]
 have hl:∀ b ∈ [m.size],b < m1.size:=by simp [s1]
 have hfl:=(hI.cell c hc).fl
 have hfll:=hf.len
 have hhl':=hh.len
 clear_value m1
 refine ⟨fun h1=>retT (Or.inl (by simpa using h1)) hx1,fun h1=>?_⟩
 simp only [beq_eq_false_iff_ne] at h1
 intro m2
 have h12:Ext m1 m2:=(Ext.refl m1).pushed _
 have hm2:mapOf m2 m1.size []:=⟨#[],0,by simp [m2],rfl⟩
 clear_value m2
 refine forI (n:=c.fields.length) (by omega) (fun k m'=>Ext m1 m'/\∃ l,mapOf m' m1.size l/\(∀ a:Nat,mget l a=occ (c.fields.take k) a)/\∀ w ∈ c.fields.take k,1000<=w->(q01 h w).count+occ (c.fields.take k) (ix w)<=999999) ⟨h12,[],hm2,fun a=>by simp [mget,occ],by simp⟩ ?_
 rintro k m3 I μ hk ⟨h13,l,hml,hmg,hfit⟩ next
 have hx3:=hx1.trans h13
 refine ⟨fun h2=>?_,fun h2=>?_⟩
 ·simp only [decide_eq_true_eq] at h2
  obtain ⟨w,hw⟩:=q00 (l:=c.fields) (k:=k) (by omega)
  have hwl:1000<=w->live h w:=fun hp=>hI.field hc (q05 hw) hp
  have hwb:w<=9223372036854775807:=by
   rcases Classical.em (1000<=w) with h3 | h3
   ·have:=q04 (q0i (hwl h3)).1; unfold ix at this; omega
   ·omega
  refine ⟨by omega,by omega,w,by simpa using hx3.gcell (hf.at' hw),hp,hx3.gcell hg,(q2f (q0h.ext hx3 hh) hwb).thenS h13 hl ?_⟩
  rintro _ m4 ⟨a,b,rfl,hb,hba,h34⟩
  have h14:=h13.trans h34
  have hx4:=hx1.trans h14
  have hm1:m1.size < m3.size:=by obtain ⟨es,cl,h5,_⟩:=hml; exact (Array.getElem?_eq_some_iff.1 h5).1
  have hml4:mapOf m4 m1.size l:=by obtain ⟨es,cl,h5,h6⟩:=hml; exact ⟨es,cl,by rw [h34.same _ hm1]; exact h5,h6⟩
  have hoc:∀ a:Nat,occ (c.fields.take (k+1)) a=occ (c.fields.take k) a+(if w=1000+(a:Int) then 1 else 0):=fun a=>by
   rw [q06 hw,q4d]; simp [occ]
  refine ⟨h34,a,b,rfl,fun hbt=>?_,fun hbf=>?_⟩
  ·have hlv:=hb.1 hbt
   have ha:=hba hbt
   subst ha
   have hwx:=ptr_ix hlv.1
   have hon:=occ_nn (c.fields.take k) (ix w)
   have hol:=q3d (c.fields.take k) (ix w)
   have hlt:(c.fields.take k).length<=3:=by simp; omega
   have e1:w64 (mget l (ix w)+1)=occ (c.fields.take (k+1)) (ix w):=by
    rw [hmg,hoc,if_pos hwx.symm]; exact q07 (by omega) (by omega)
   refine ⟨l,hml4,l,hml4,?_⟩
   rw [e1]
   intro m5 hm5 hs5 hk5
   have h15:Ext m1 m5:=⟨by rw [hs5]; exact h14.size,fun b hb=>by rw [hk5 b (by omega),h14.same b hb]⟩
   have hx5:=hx1.trans h15
   obtain ⟨hcc,hpos⟩:=q0i hlv
   obtain ⟨f5,_,k0,_⟩:=(q0h.ext hx5 hh).at' hcc
   have hltc:=q04 hcc
   have hmx:=(hI.cell _ (q05 hcc)).hi
   have hg1:mget (mput l (ix w) (occ (c.fields.take (k+1)) (ix w))) (ix w)=occ (c.fields.take (k+1)) (ix w):=by rw [qir,if_pos rfl]
   have hoc2:=hoc (ix w)
   rw [if_pos hwx.symm] at hoc2
   have e2:w64 ((q01 h w).count+occ (c.fields.take (k+1)) (ix w))=(q01 h w).count+occ (c.fields.take (k+1)) (ix w):=q07 (by omega) (by omega)
   refine ⟨Ext.sam2 h14 h15 hl,hp,hx5.gcell hg,by omega,by omega,_,by simpa using k0,_,hm5,trivial,trivial,?_⟩
   rw [hg1,e2]
   refine ⟨fun h6=>retF (fun hh2=>?_) hx5,fun h6=>next (by omega) _ ⟨h15,_,hm5,fun a=>?_,fun v hv hvp=>?_⟩⟩
   ·rcases hh2 with hh2 | hh2
    ·exact h1 hh2
    ·have:=hh2 w (q05 hw) hlv.1
     have:=qs4 c.fields (k+1) (ix w)
     simp at h6; omega
   ·rw [qir]
    by_cases ha:(a:Int)=ix w
    ·have:a=ix w:=by omega
     subst this; rw [if_pos rfl]
    ·rw [if_neg ha,hmg,hoc,if_neg (by omega)]; omega
   ·by_cases hvw:v=w
    ·subst hvw; simp at h6; omega
    ·rw [hoc,if_neg (fun e=>hvw (by rw [ptr_ix hvp] at e; exact e.symm))]
     rw [q06 hw] at hv
     rcases List.mem_append.1 hv with hv | hv
     ·have:=hfit v hv hvp; omega
     ·simp at hv; exact absurd hv hvw
  ·have hnl:¬ live h w:=fb hb hbf
   have hwi:w < 1000:=by
    rcases Classical.em (1000<=w) with h3 | h3
    ·exact absurd (hwl h3) hnl
    ·omega
   refine next (by omega) _ ⟨h14,l,hml4,fun a=>by rw [hmg,hoc,if_neg (by omega)]; omega,fun v hv hvp=>?_⟩
   rw [hoc,if_neg (by omega)]
   rw [q06 hw] at hv
   rcases List.mem_append.1 hv with hv | hv
   ·have:=hfit v hv hvp; omega
   ·simp at hv; omega
 ·simp only [decide_eq_false_iff_not] at h2
  rw [q0b (by omega)] at hfit
  exact retT (Or.inr hfit) hx3
structure FP (m:Mem) (fb fo:Nat) (f:Frame) (r o h:Sl):Prop where
 g3:gcell m fb (fo+3)=some (Sl.v r)
 g4:gcell m fb (fo+4)=some (Sl.v o)
 g5:gcell m fb (fo+5)=some (Sl.v h)
 regs:q03 m r f.regs
 own:q03 m o f.own
 held:q03 m h f.held
theorem FP.ext {m m':Mem} {fb fo:Nat} {f:Frame} {r o h:Sl} (F:FP m fb fo f r o h) (hx:Ext m m'):FP m' fb fo f r o h:=⟨hx.gcell F.g3,hx.gcell F.g4,hx.gcell F.g5,F.regs.ext hx,F.own.ext hx,F.held.ext hx⟩
theorem qn9 {m:Mem} {mb fb fo:Nat} {d p out hp fr:Sl} {im:Image} {s:St} (V:RV m mb 3 d p out hp fr im s) (hcons:gcell m mb 2=some (vi (q0j im))) {fs:List Frame} {f:Frame} {x:Instr} (C:Cur im s fs f x) {r o h a j:Sl} (F:FP m fb fo f r o h) (ha:q03 m a x.args) (hop:x.op=11) (hhl:s.heap.length<=2000000000) :
  q0o Tryz.prog q4t [vp mb 0,vp fb fo,xv x a j] m (MayApply im s.heap (at' f.regs (at' x.args 0))):=by
 apply qb9 (mb,0) (fb,fo)
 simp -zeta only [q0a,q09,rI,rS,rB,cI,cB,cS,dI,dB,dS,gk,rg]
 intro m1
 have hx1:Ext m m1:=(Ext.refl m).pushed _
 have s1:m1.size=m.size+1:=by simp [m1]
 clear_value m1
 have hl:∀ b ∈ [m.size],b < m1.size:=by simp [s1]
 have hal:=ha.len
 have hrl:=F.regs.len
 have h2:=C.args4.2.2.1 (by omega)
 have h0:0<=at' x.args 0/\at' x.args 0 < f.regs.length:=C.arg _ (q18 (by omega) (by omega))
 have hrg:=C.F.regRange h0.1 h0.2 C.fitF
 have F1:=F.ext hx1
 have hI:=C.ok.heap
 have him:=C.ok.image
 refine ⟨hp,hx1.gcell V.heapc,r,F1.g3,by omega,by omega,_,(ha.ext hx1).atI (by omega) (by omega),h0.1,by omega,_,F1.regs.atI h0.1 h0.2,?_⟩
 generalize at' f.regs (at' x.args 0)=w at *
 refine (q2f (q0h.ext hx1 V.heap) hrg.2).thenS (Ext.refl _) hl ?_
 rintro _ m2 ⟨aa,b,rfl,hb,hba,h12⟩
 have hx2:=hx1.trans h12
 refine ⟨h12,aa,b,rfl,fun hbt=>retF (fun hM=>nb hb hbt hM.1) hx2,fun hbf=>?_⟩
 have hlv:=yb hb hbf
 have ha:=hba (by simpa using hbf)
 subst ha
 obtain ⟨hc,hpos⟩:=q0i hlv
 have hCO:=hI.cell _ (q05 hc)
 have htag:=(hCO.alive hpos).2
 have hlt:=q04 hc
 have hhp:=V.heap.len
 obtain ⟨f2,hf2,k0,k1,k2⟩:=(q0h.ext hx2 V.heap).at' hc
 refine ⟨hp,hx2.gcell V.heapc,by omega,by omega,_,by simpa using k0,_,by simpa using k1,f2,by simpa using k2,?_⟩
 intro m3 m4
 have h24:Ext m2 m4:=((Ext.refl m2).pushed _).scells (Nat.le_refl _) _ _
 have s4:m4.size=m2.size+1:=by simp [m4,m3,q02]
 clear_value m4
 have hx4:=hx2.trans h24
 have h12':(q17 im.decls).length<=12:=by
  have:=fc_12 him.sigs.types im.decls.length
  rw [fc_all _ _ (Nat.le_refl _)] at this; exact this
 have hcc:(q0j im)=((q17 im.decls).length:Int):=rfl
 have hpl:=V.image.procs.len
 have hp4:=him.sigs.len
 have e1:w64 ((q01 s.heap w).tag - q0j im)=(q01 s.heap w).tag - q0j im:=q07 (by omega) (by omega)
 refine ⟨q0j im,hx4.gcell hcons,?_⟩
 rw [e1]
 refine ⟨fun h5=>retF (fun hM=>by have:=hM.2.1; simp at h5; omega) hx4,fun h5=>⟨p,hx4.gcell V.procs,fun h6=>retF (fun hM=>by have:=hM.2.2.1; simp at h6; omega) hx4,fun h6=>?_⟩⟩
 simp at h5 h6
 obtain ⟨q,hq⟩:=q00 (l:=im.procs) (k:=((q01 s.heap w).tag - q0j im).toNat) (by omega)
 have hqe:q0y im ((q01 s.heap w).tag - q0j im)=q:=by simp [q0y,hq]
 obtain ⟨a',l',c',ha',hl',hc',j0,j1,j2,j3,j4⟩:=(V.image.ext hx4).procs.at' hq
 have hal':=ha'.len
 have hll':=hl'.len
 have hfll:=hf2.len
 have hfl3:=hCO.fl
 refine ⟨p,hx4.gcell V.procs,by omega,by omega,a',j0,l',j1,_,j2,_,j3,c',j4,?_⟩
 intro m5 m6
 have h46:Ext m4 m6:=((Ext.refl m4).pushed _).scells (Nat.le_refl _) _ _
 have s6:m6.size=m4.size+1:=by simp [m6,m5,q02]
 clear_value m6
 have hx6:=hx4.trans h46
 have e3:w64 ((f2.len:Int)+1)=(f2.len:Int)+1:=q07 (by omega) (by omega)
 rw [e3]
 unfold MayApply
 rw [hqe]
 have hs2:=h12.size
 refine ⟨fun h7=>⟨fun h8=>?_,fun h8=>retF (fun hM=>by have:=hM.2.2.2.1; simp at h8; omega) hx6⟩,fun h7=>retF (fun hM=>by have:=hM.2.2.2.2.1; simp at h7; omega) hx6⟩
 simp at h7 h8
 refine (qct (hx6.gcell V.heapc) (q0h.ext hx6 V.heap) hI (q05 hc) (hf2.ext (h24.trans h46)) hhl).thenS (Ext.refl _) (by simp; omega) fun b2 m7 hb2 h67 _=>⟨b2,rfl,retB (hb2.trans ?_) (hx6.trans h67)⟩
 exact ⟨fun hs=>⟨hlv,by omega,by omega,by omega,by omega,hs⟩,fun hM=>hM.2.2.2.2.2⟩
set_option maxHeartbeats 1000000 in
theorem qj8 {m:Mem} {mb fb fo:Nat} {d p out hp fr:Sl} {im:Image} {s:St} (V:RV m mb 3 d p out hp fr im s) {fs:List Frame} {f:Frame} {x:Instr} (C:Cur im s fs f x) {r o h a j:Sl} (F:FP m fb fo f r o h) (ha:q03 m a x.args) (hop:x.op=14 \/ x.op=19 \/ x.op=21 \/ x.op=16 \/ x.op=17) (hhl:s.heap.length<=2000000000) :
  q0o Tryz.prog q4f [vp mb 0,vp fb fo,xv x a j] m ((x.op=14->live s.heap (at' f.regs (at' x.args 0))/\(q01 s.heap (at' f.regs (at' x.args 0))).count < 999999)/\(x.op=19->live s.heap (at' f.regs (at' x.args 0))/\x.num < (q01 s.heap (at' f.regs (at' x.args 0))).fields.length) /\
   (x.op=21->live s.heap (at' f.regs (at' x.args 0))/\(q01 s.heap (at' f.regs (at' x.args 0))).tag ∈ q1h im.decls x.num)/\((x.op=16 \/ x.op=17)->MayOpen s.heap f x)):=by
 apply q9y (mb,0) (fb,fo)
 simp -zeta only [q0a,q09,rI,rS,rB,cI,cB,cS,dI,dB,dS,gk,rg]
 intro m1
 have hx1:Ext m m1:=(Ext.refl m).pushed _
 have s1:m1.size=m.size+1:=by simp [m1]
 clear_value m1
 have hl:∀ b ∈ [m.size],b < m1.size:=by simp [s1]
 have hal:=ha.len
 have hac:=ha.cap
 have hrl:=F.regs.len
 have hhel:=F.held.len
 have h4:=C.args4
 have hlens:=C.lens
 have hn1:1<=x.args.length:=by omega
 have h41:=h4.1
 clear h4
 have h0:0<=at' x.args 0/\at' x.args 0 < f.regs.length:=C.arg _ (q18 (by omega) (by omega))
 have hrg:=C.F.regRange h0.1 h0.2 C.fitF
 have F1:=F.ext hx1
 have hI:=C.ok.heap
 have hMO:MayOpen s.heap f x ↔ (live s.heap (at' f.regs (at' x.args 0))/\ptrs (q01 s.heap (at' f.regs (at' x.args 0))).fields=words f (x.args.drop 1)/\((q01 s.heap (at' f.regs (at' x.args 0))).count=1 \/ q43 s.heap (q01 s.heap (at' f.regs (at' x.args 0))).fields)/\(x.op=17->at' f.held (at' x.args 0)=0)):=Iff.rfl
 rw [hMO]
 refine ⟨hp,hx1.gcell V.heapc,r,F1.g3,by omega,by omega,_,(ha.ext hx1).atI (by omega) (by omega),h0.1,by omega,_,F1.regs.atI h0.1 h0.2,?_⟩
 generalize at' f.regs (at' x.args 0)=w at *
 refine (q2f (q0h.ext hx1 V.heap) hrg.2).thenS (Ext.refl _) hl ?_
 rintro _ m2 ⟨aa,b,rfl,hb,hba,h12⟩
 have hx2:=hx1.trans h12
 refine ⟨h12,aa,b,rfl,fun hbt=>retF (fun hM=>?_) hx2,fun hbf=>?_⟩
 ·have hnl:=nb hb hbt
  rcases hop with e | e | e | e
  ·exact hnl (hM.1 e).1
  ·exact hnl (hM.2.1 e).1
  ·exact hnl (hM.2.2.1 e).1
  ·exact hnl (hM.2.2.2 e).1
 have hlv:=yb hb hbf
 have haa:=hba (by simpa using hbf)
 subst haa
 obtain ⟨hc,hpos⟩:=q0i hlv
 have hCO:=hI.cell _ (q05 hc)
 have hlt:=q04 hc
 have hhp:=V.heap.len
 obtain ⟨f2,hf2,k0,k1,k2⟩:=(q0h.ext hx2 V.heap).at' hc
 refine ⟨hp,hx2.gcell V.heapc,by omega,by omega,_,by simpa using k0,_,by simpa using k1,f2,by simpa using k2,?_⟩
 intro m3 m4
 have h24:Ext m2 m4:=((Ext.refl m2).pushed _).scells (Nat.le_refl _) _ _
 have s4:m4.size=m2.size+1:=by simp [m4,m3,q02]
 have kB:gcell m4 m2.size 1=some (vi (q01 s.heap w).tag):=(Blk.scells (m:=m3) (o:=0) (r:=[.i (q01 s.heap w).count,.i (q01 s.heap w).tag,.s f2]) (Blk.push m2 _ _)).get 1
 clear_value m4
 have hx4:=hx2.trans h24
 have hs2:=h12.size
 have hl4:∀ b ∈ [m2.size,m.size],b < m4.size:=by simp; omega
 have hfll:=hf2.len
 refine ⟨fun e=>?_,fun e14=>⟨fun e=>?_,fun e19=>⟨fun e=>?_,fun e21=>?_⟩⟩⟩
 ·simp at e
  refine retB ?_ hx4
  simp
  exact ⟨fun h5=>⟨fun _=>⟨hlv,h5⟩,fun e'=>by omega,fun e'=>by omega,fun e'=>by omega⟩,fun h5=>(h5.1 e).2⟩
 ·simp at e
  refine retB ?_ hx4
  simp
  exact ⟨fun h5=>⟨fun e'=>by omega,fun _=>⟨hlv,by omega⟩,fun e'=>by omega,fun e'=>by omega⟩,fun h5=>by have:=(h5.2.1 e).2; omega⟩
 ·simp at e
  refine ⟨d,hx4.gcell V.decls,(qao (V.image.ext hx4).decls C.ok.image.sigs.types _).thenS (Ext.refl _) hl4 ?_⟩
  rintro _ m5 ⟨cs,rfl,hcs,h45⟩
  refine ⟨h45,cs,rfl,h45.keepG kB,(q57 hcs _).thenS h45 hl4 fun b2 m6 hb2 h56 h46=>⟨b2,rfl,retB (hb2.trans ?_) (hx4.trans h46)⟩⟩
  exact ⟨fun h5=>⟨fun e'=>by omega,fun e'=>by omega,fun _=>⟨hlv,h5⟩,fun e'=>by omega⟩,fun h5=>(h5.2.2.1 e).2⟩
 ·simp at e14 e19 e21
  have e16:x.op=16 \/ x.op=17:=by omega
  have e1:(Int.toNat (1:Int))=1:=rfl
  have e2:(Int.toNat (a.len:Int))=a.len:=by omega
  rw [e1,e2]
  have icut:=cut1 (ha.ext hx4) hn1
  have hicl:=icut.len
  have hdl:(x.args.drop 1).length<=4:=by simp; omega
  refine ⟨by omega,by omega,by omega,?_⟩
  refine forSI (n:=(x.args.drop 1).length) (by omega) (fun k s' m'=>Ext m4 m'/\Own m4 m' ty_int 1 s' ((words f ((x.args.drop 1).take k)).map Ce.i)) ⟨Ext.refl _,by simpa [words] using Own.nil m4 m4 ty_int 1⟩ ?_
  rintro k s' m5 I μ hk ⟨h45,o5⟩ next
  have hx5:=hx4.trans h45
  refine ⟨fun h5=>?_,fun h5=>?_⟩
  ·simp only [decide_eq_true_eq] at h5
   obtain ⟨y,hy⟩:=q00 (l:=x.args.drop 1) (k:=k) (by omega)
   have hyr:=C.arg y (List.mem_of_mem_drop (q05 hy))
   have F5:=F.ext hx5
   refine ⟨by omega,by omega,y,by simpa using (icut.ext h45).at' hy,r,F5.g3,hyr.1,by omega,_,F5.regs.atI hyr.1 hyr.2,?_⟩
   intro m6
   refine q54 o5 h45 (by simp [words]; omega) fun q m7 q1 q2=>⟨Ext.sam2 (h45.pushed _) q2 hl4,next (by omega) _ _ ⟨q2,?_⟩⟩
   rw [q06 hy]
   simpa [words] using q1
  ·simp only [decide_eq_false_iff_not] at h5
   rw [q0b (by omega)] at o5
   have i5:q03 m5 s' (words f (x.args.drop 1)):=q03.ofOwn o5 (by simp [words]; omega)
   refine (qj7 (hf2.ext (h24.trans h45)) (by have:=hCO.fl; omega)).thenS (by have:=q51 (q01 s.heap w).fields; have:=hCO.fl; omega) (fun b hb=>h45.lt (hl4 b hb)) fun ps m6 o6 i6 h56=>⟨ps,rfl,?_⟩
   have h46:=h45.trans h56
   refine (qhs i6 (i5.ext h56)).thenS h46 hl4 fun b2 m7 hb2 h67 h47=>⟨b2,rfl,fun h8=>retF (fun hM=>nb hb2 h8 (hM.2.2.2 e16).2.1) (hx4.trans h47),fun h8=>?_⟩
   have hsame:=yb hb2 h8
   have hx7:=hx4.trans h47
   have share:q08 Tryz.prog q29 [vp mb 0,.agg #[vi (q01 s.heap w).count,vi (q01 s.heap w).tag,Sl.v f2]] m7 fun r_5 m1_11=>Sam [m2.size,m.size] m7 m1_11/\∃ r115:Bool,r_5=vb r115/\((r115=true ↔ ((q01 s.heap w).count=1 \/ q43 s.heap (q01 s.heap w).fields))/\Ext m m1_11) :=
    (qct (hx7.gcell V.heapc) (q0h.ext hx7 V.heap) hI (q05 hc) (hf2.ext (h24.trans h47)) hhl).thenS h47 hl4 fun b3 m8 hb3 h78 h48=>⟨b3,rfl,hb3,hx4.trans h48⟩
   have F7:=F.ext hx7
   have h0h:at' x.args 0 < f.held.length:=by omega
   refine ⟨fun h17=>⟨h,F7.g5,by omega,by omega,_,(ha.ext hx7).atI (by omega) (by omega),h0.1,by omega,_,F7.held.atI h0.1 h0h,fun h9=>retF (fun hM=>?_) hx7,fun h9=>share.mono ?_⟩,fun h17=>share.mono ?_⟩
   ·simp at h17 h9; exact h9 ((hM.2.2.2 e16).2.2.2 h17)
   ·rintro _ m8 ⟨hs,b3,rfl,hb3,hx8⟩
    refine ⟨hs,b3,rfl,retB (hb3.trans ?_) hx8⟩
    simp at h9
    exact ⟨fun hf=>⟨fun e'=>by omega,fun e'=>by omega,fun e'=>by omega,fun _=>⟨hlv,hsame,hf,fun _=>h9⟩⟩,fun hM=>(hM.2.2.2 e16).2.2.1⟩
   ·rintro _ m8 ⟨hs,b3,rfl,hb3,hx8⟩
    refine ⟨hs,b3,rfl,retB (hb3.trans ?_) hx8⟩
    simp at h17
    exact ⟨fun hf=>⟨fun e'=>by omega,fun e'=>by omega,fun e'=>by omega,fun _=>⟨hlv,hsame,hf,fun e'=>absurd e' h17⟩⟩,fun hM=>(hM.2.2.2 e16).2.2.1⟩
end
section
theorem qb4 (regs:List Int):∀ (l1 l2 own:List Int),q0c regs own (l1 ++ l2)=q0c regs (q0c regs own l1) l2
 | [],l2,own=>rfl
 | y :: l1,l2,own=>by simp only [List.cons_append,q0c,qb4 regs l1 l2]
theorem qqj {m:Mem} {b fb fo:Nat} {f:Frame} {r o h:Sl} (hg:gcell m b 0=some (vp fb fo)) (F:FP m fb fo f r o h) {x:Int} (h0:0<=x/\x < f.regs.length):q0o Tryz.prog q4e [vi x,vp b 0] m (1000<=at' f.regs x):=by
 apply qdg x (b,0)
 have hrl:=F.regs.len
 exact ⟨(fb,fo),hg,r,F.g3,h0.1,by omega,_,F.regs.atI h0.1 h0.2,retB (by simp) (Ext.refl _)⟩
set_option maxHeartbeats 2000000 in
theorem qs1 {m:Mem} {mb fb fo:Nat} {d p out hp fr:Sl} {im:Image} {s:St} (V:RV m mb 3 d p out hp fr im s) (hcons:gcell m mb 2=some (vi (q0j im))) {fs:List Frame} {f:Frame} {x:Instr} (C:Cur im s fs f x) {r o h a j:Sl} (F:FP m fb fo f r o h) (ha:q03 m a x.args) (hhl:s.heap.length<=2000000000) :
  q0o Tryz.prog q41 [vp mb 0,vp fb fo,xv x a j] m (MayRun im s f x (q0c f.regs f.own (taken im x))):=by
 apply qeu (mb,0) (fb,fo)
 simp -zeta only [q0a,q09,rI,rS,rB,cI,cB,cS,dI,dB,dS,gk,rg]
 intro m1 m2
 have hx2:Ext m m2:=((Ext.refl m).pushed _).pushed _
 have s1:m1.size=m.size+1:=by simp [m1]
 have s2:m2.size=m.size+2:=by simp [m2,s1]
 have hl:∀ b ∈ [m1.size,m.size],b < m2.size:=by simp; omega
 have kP:gcell m2 m.size 0=some (vp fb fo):=((Blk.push m [.p fb fo] 133).ext (Ext.push m1 _)).get 0
 clear_value m2
 have hal:=ha.len
 have hrl:=F.regs.len
 have hol:=F.own.len
 have hhel:=F.held.len
 have hlens:=C.lens
 have hd:=C.dst
 have hopc:=C.opc
 refine ⟨o,hx2.gcell F.g4,(q1k (F.own.ext hx2) (by omega)).thenS (by omega) hl fun q m3 oq iq h23=>⟨q,rfl,?_⟩⟩
 have hql:=iq.len
 have hx3:=hx2.trans h23
 refine (qds (V.image.ext hx3) (hx3.gcell V.procs) C.call (ha.ext hx3) (by have:=C.args4.1; omega) C.args4.2.2.2.1).thenS h23 hl ?_
 rintro _ m4 ⟨rs,ls,rfl,irs,ils,h34,hrb,hlb⟩
 have h24:=h23.trans h34
 have oq4:=oq.ext h34
 refine ⟨h34,rs,ls,rfl,?_⟩
 have htl:=qit im x
 have ha4:=C.args4.1
 have hrsl:=irs.len
 have hTin:=C.takenIn
 have hown0:∀ w ∈ f.own,0<=w:=fun w hw=>(C.ownb w hw).1
 have hqb:m2.size<=q.blk:=by
  rcases oq.blk with e | e
  ·subst e; simp at hql; omega
  ·exact e
 have hqlt:q.blk < m3.size:=by
  rcases oq.lt with e | e
  ·subst e; simp at hql; omega
  ·exact e
 have harg:=C.arg
 have hml:=hx2.size
 have kr:∀ {m':Mem},(∀ b,b < m4.size->b ≠ q.blk->m'[b]?=m4[b]?)->q03 m' rs (taken im x):=fun hk=>q2t irs fun hne=>hk _ (q2c irs hne) fun e=>by
  have hane:x.args ≠ []:=fun h0=>by
   obtain ⟨y,hy⟩:=List.exists_mem_of_ne_nil _ hne
   have:=qe6 hy
   rw [h0] at this; simp at this
  rcases hrb with e2 | e2 | e2
  ·subst e2; have:=irs.len; simp at this; exact hne (List.length_eq_zero_iff.1 this.symm)
  ·rw [e2] at e
   have:=q2c ha hane
   omega
  ·omega
 have kl:∀ {m':Mem},(∀ b,b < m4.size->b ≠ q.blk->m'[b]?=m4[b]?)->q03 m' ls (if x.op=9 \/ x.op=24 then q19 im x 0 x.args else []):=fun hk=>q2t ils fun hne=>hk _ (q2c ils hne) fun e=>by
  rcases hlb with e2 | e2
  ·subst e2; have:=ils.len; simp at this; exact hne (List.length_eq_zero_iff.1 this.symm)
  ·omega
 refine forI (n:=(taken im x).length) (by omega) (fun k m'=>Ext m2 m'/\(∀ b,b < m4.size->b ≠ q.blk->m'[b]?=m4[b]?)/\Own m2 m' ty_int 1 q ((q0c f.regs f.own ((taken im x).take k)).map Ce.i)/\∀ w ∈ q0c f.regs f.own ((taken im x).take k),0<=w) ⟨h24,fun _ _ _=>rfl,oq4,hown0⟩ ?_
 rintro k m5 I μ hk ⟨h25,hk5,oq5,hnn5⟩ next
 have hx5:=hx2.trans h25
 have F5:=F.ext hx5
 have hlenT:=q3c f.regs ((taken im x).take k) f.own
 have iq5:q03 m5 q (q0c f.regs f.own ((taken im x).take k)):=q03.ofOwn oq5 (by omega)
 refine ⟨fun h6=>?_,fun h6=>?_⟩
 ·simp only [decide_eq_true_eq] at h6
  obtain ⟨y,hy⟩:=q00 (l:=taken im x) (k:=k) (by omega)
  have hyr:=hTin y (q05 hy)
  have hstep:q0c f.regs f.own ((taken im x).take (k+1))=if 1000<=at' f.regs y then setI (q0c f.regs f.own ((taken im x).take k)) y (at' (q0c f.regs f.own ((taken im x).take k)) y - 1) else q0c f.regs f.own ((taken im x).take k):=by
   rw [q06 hy,qb4]; rfl
  have hyo:y < (q0c f.regs f.own ((taken im x).take k)).length:=by omega
  have hb0:=hnn5 _ (q18 hyr.1 hyo)
  have hb1:at' (q0c f.regs f.own ((taken im x).take k)) y<=999999:=by
   obtain ⟨q',hq',hle⟩:=q3x ((taken im x).take k) f.own y.toNat _ (at_get hyr.1 hyo)
   have:=(C.ownb q' (q05 hq')).2; omega
  refine ⟨by omega,by omega,y,by simpa using (kr hk5).at' hy,r,F5.g3,hyr.1,by omega,_,F5.regs.atI hyr.1 hyr.2,fun h7=>?_,fun h7=>next (by omega) _ ⟨h25,hk5,by rw [hstep,if_neg (by simpa using h7)]; exact oq5,by rw [hstep,if_neg (by simpa using h7)]; exact hnn5⟩⟩
  simp at h7
  rw [if_pos h7] at hstep
  refine ⟨hyr.1,by omega,_,iq5.atI hyr.1 hyo,hyr.1,by omega,?_⟩
  have e1:w64 (at' (q0c f.regs f.own ((taken im x).take k)) y - 1)=at' (q0c f.regs f.own ((taken im x).take k)) y - 1:=q07 (by omega) (by omega)
  rw [e1]
  rcases oq5.at' with hnil | ⟨bb,c,tail,z1,z2,z3,z4,z5⟩
  ·rw [hnil] at hql; simp at hql; omega
  ·have hoff:q.off=0:=by rw [z1]; rfl
   have hblk:q.blk=bb:=by rw [z1]; rfl
   have hidx:q.off+y.toNat*1=y.toNat:=by omega
   rw [hidx,hblk]
   have hltm:y.toNat < ((q0c f.regs f.own ((taken im x).take k)).map Ce.i).length:=by simp; omega
   refine ⟨z3.wrOk (by simp only [List.length_append]; omega),?_⟩
   intro m6
   have h26:Ext m2 m6:=h25.scells (by omega) _ _
   have hk6:∀ b,b < m4.size->b ≠ q.blk->m6[b]?=m4[b]?:=fun b hb hne=>by rw [q0n _ _ _ _ (by omega)]; exact hk5 b hb hne
   have o6:Own m2 m6 ty_int 1 q ((q0c f.regs f.own ((taken im x).take (k+1))).map Ce.i):=by
    rw [hstep]
    refine ⟨by rw [List.length_map,q2y,← List.length_map (f:=Ce.i)]; exact oq5.len,Or.inr ⟨bb,c,tail,z1,z2,?_,?_,z5⟩⟩
    ·have:=Blk.scells (m:=m5) (o:=y.toNat) (r:=[.i (at' (q0c f.regs f.own ((taken im x).take k)) y - 1)]) z3
     have e6:setL ((q0c f.regs f.own ((taken im x).take k)).map Ce.i ++ tail) y.toNat [.i (at' (q0c f.regs f.own ((taken im x).take k)) y - 1)]=(setI (q0c f.regs f.own ((taken im x).take k)) y (at' (q0c f.regs f.own ((taken im x).take k)) y - 1)).map Ce.i ++ tail:=by
      simp only [setL,setI,List.map_set]
      rw [List.set_append_left _ _ hltm]
     rw [e6] at this; exact this
    ·simp only [List.length_append,List.length_map,q2y] at z4 ⊢; exact z4
   have hlen6:=q3c f.regs ((taken im x).take (k+1)) f.own
   have iq6:q03 m6 q (q0c f.regs f.own ((taken im x).take (k+1))):=q03.ofOwn o6 (by omega)
   have hat6:at' (q0c f.regs f.own ((taken im x).take (k+1))) y=at' (q0c f.regs f.own ((taken im x).take k)) y - 1:=by rw [hstep,que hyr.1 hyo y hyr.1,if_pos rfl]
   have hg6:=iq6.atI (i:=y) hyr.1 (by omega)
   rw [hat6,hidx,hblk] at hg6
   refine ⟨Ext.sam2 h25 h26 hl,hyr.1,by omega,_,hg6,fun h8=>retF (fun hM=>?_) (hx2.trans h26),fun h8=>next (by omega) _ ⟨h26,hk6,o6,fun w hw=>?_⟩⟩
   ·simp at h8
    have hfin:q0c f.regs f.own (taken im x)=q0c f.regs (q0c f.regs f.own ((taken im x).take (k+1))) ((taken im x).drop (k+1)):=by rw [← qb4,List.take_append_drop]
    have hl6:y < (q0c f.regs f.own (taken im x)).length:=by rw [q3c]; omega
    have hgf:=at_get (l:=q0c f.regs f.own (taken im x)) hyr.1 hl6
    have hge:=hM.nn _ (q05 hgf)
    rw [hfin] at hgf
    obtain ⟨q',hq',hle⟩:=q3x _ _ _ _ hgf
    have hq2:=at_of' hq'
    rw [hat6] at hq2
    rw [← hfin] at hle
    omega
   ·rw [hstep] at hw
    rcases q5k hw with hw | hw
    ·simp at h8; omega
    ·exact hnn5 w hw
 ·simp only [decide_eq_false_iff_not] at h6
  have htk:(taken im x).take k=taken im x:=q0b (by omega)
  rw [htk] at iq5 hnn5 hlenT
  have ils5:=kl hk5
  generalize hown:q0c f.regs f.own (taken im x)=own at *
  have hlsl:=ils5.len
  refine ⟨fun m'=>Ext m5 m'/\(Sets x.op->at' own x.dst<=0),?_,?_⟩
  ·refine (q9m _ _ ⟨by omega,by omega⟩).thenS h25 hl fun b m6 hb h56 h26=>⟨b,rfl,fun hbt=>⟨hd.1,by omega,_,(iq5.ext h56).atI hd.1 (by omega),fun h7=>retF (fun hM=>?_) (hx2.trans h26),fun h7=>⟨h56,fun _=>by simpa using h7⟩⟩,fun hbf=>⟨h56,fun hs=>absurd hs (Go.Vc.fb hb hbf)⟩⟩
   have:=hM.dst (hb.1 hbt); simp at h7; omega
  ·rintro m6 ⟨h56,hdst⟩
   have lsub:∀ (l:List Int) (jj:Nat) (y:Int),y ∈ q19 im x jj l->y ∈ l:=by
    intro l
    induction l with
    | nil=>intro jj y h; simp [q19] at h
    | cons z l ih =>
     intro jj y h
     simp only [q19] at h
     split at h
     ·rcases List.mem_cons.1 h with rfl | h
      ·exact List.mem_cons_self
      ·exact List.mem_cons_of_mem _ (ih _ _ h)
     ·exact List.mem_cons_of_mem _ (ih _ _ h)
   generalize hLL:(if x.op=9 \/ x.op=24 then q19 im x 0 x.args else [])=LL at *
   have hLin:∀ y ∈ LL,0<=y/\y < f.regs.length:=fun y hy=>by
    rw [← hLL] at hy
    split at hy
    ·exact harg y (lsub _ _ _ hy)
    ·simp at hy
   refine forI (n:=LL.length) (hlsl ▸ ils5.lim) (fun k m'=>Ext m5 m'/\∀ y ∈ LL.take k,1000<=at' f.regs y->live s.heap (at' f.regs y)) ⟨h56,by simp⟩ ?_
   rintro k2 m7 I2 μ2 hk2 ⟨h57,hlv7⟩ next2
   have h27:=h25.trans h57
   have hx7:=hx2.trans h27
   have F7:=F.ext hx7
   refine ⟨fun h8=>?_,fun h8=>?_⟩
   ·simp only [decide_eq_true_eq] at h8
    obtain ⟨y,hy⟩:=q00 (l:=LL) (k:=k2) (by omega)
    have hyr:=hLin y (q05 hy)
    refine ⟨by omega,by omega,y,by simpa using (ils5.ext h57).at' hy,r,F7.g3,hyr.1,by omega,_,F7.regs.atI hyr.1 hyr.2,fun h9=>?_,fun h9=>next2 (by omega) _ ⟨h57,q0f hy hlv7 fun hp=>by simp at h9; omega⟩⟩
    simp at h9
    refine (qpb (hx7.gcell V.heapc) (q0h.ext hx7 V.heap) (C.F.regRange hyr.1 hyr.2 C.fitF).2).thenS h27 hl fun b m8 hb h78 h28=>⟨b,rfl,fun h10=>retF (fun hM=>?_) (hx2.trans h28),fun h10=>next2 (by omega) _ ⟨h57.trans h78,q0f hy hlv7 fun _=>yb hb h10⟩⟩
    have hyL:=q05 hy
    rw [← hLL] at hyL
    split at hyL
    ·rename_i e9; exact nb hb h10 (hM.lent e9 y hyL h9)
    ·simp at hyL
   ·simp only [decide_eq_false_iff_not] at h8
    rw [q0b (by omega)] at hlv7
    have hlent:(x.op=9 \/ x.op=24)->LentLive im s.heap f x:=fun e9=>by rw [if_pos e9] at hLL; rw [← hLL] at hlv7; exact hlv7
    have iq7:=iq5.ext h57
    have hV:=V.ext hx7
    have arg0:1<=x.args.length->0<=at' x.args 0/\at' x.args 0 < f.regs.length:=fun h1=>harg _ (q18 (by omega) (by omega))
    have ga:∀ {m'},Ext m m'->1<=x.args.length->gcell m' a.blk (a.off+Int.toNat (0:Int)*1)=some (vi (at' x.args 0)):=fun hx h1=>(ha.ext hx).atI (by omega) (by omega)
    clear next next2 hk5 kr kl hopc hrb hlb
    refine ⟨fun e=>?_,fun e1=>?_⟩
    ·simp only [Bool.or_eq_true,beq_iff_eq] at e
     refine (q37 (ha.ext hx7) q4e #[] #[vp m.size 0] (by decide) (fun y=>1000<=at' f.regs y) (fun y hy m' hx'=>?_)).thenS h27 (fun b hb=>hl b (by simp at hb; simp [hb])) fun b m8 hb h78 h28=>⟨b,rfl,retB ?_ (hx2.trans h28)⟩
     ·simpa using qqj (hx'.gcell (h27.gcell kP)) (F7.ext hx') (harg y hy)
     ·have hb':(!b)=true ↔ ¬ (b=true):=by simp
      rw [hb',hb]
      constructor
      ·intro hno
       have hp:∀ y ∈ x.args,at' f.regs y < 1000:=fun y hy=>by
        rcases Classical.em (1000<=at' f.regs y) with h1 | h1
        ·exact absurd ⟨y,hy,h1⟩ hno
        ·omega
       have ne:x.op ≠ 6/\x.op ≠ 24/\x.op ≠ 23/\x.op ≠ 11/\x.op ≠ 14/\x.op ≠ 15/\x.op ≠ 16/\x.op ≠ 17/\x.op ≠ 19/\x.op ≠ 21:=by rcases e with e | e | e | e | e | e <;> rw [e] <;> decide
       exact ⟨hnn5,hdst,fun _=>hp,fun e'=>absurd e' ne.1,hlent,fun e'=>e'.elim (fun h=>absurd h ne.2.1) (fun h=>absurd h ne.2.2.1),fun e'=>absurd e' ne.2.2.1,fun e'=>absurd e' ne.2.2.2.1,fun e'=>absurd e' ne.2.2.2.2.1,fun e'=>absurd e' ne.2.2.2.2.2.1,fun e'=>e'.elim (fun h=>absurd h ne.2.2.2.2.2.2.1) (fun h=>absurd h ne.2.2.2.2.2.2.2.1),fun e'=>absurd e' ne.2.2.2.2.2.2.2.2.1,fun e'=>absurd e' ne.2.2.2.2.2.2.2.2.2⟩
      ·rintro hM ⟨y,hy,h1⟩
       have:=hM.ints (by omega) y hy; omega
    simp only [Bool.or_eq_false_iff,beq_eq_false_iff_ne] at e1
    refine ⟨fun e=>?_,fun e6=>?_⟩
    ·simp only [beq_iff_eq] at e
     have hin:=C.args4.2.2.2.2.1 e
     have fin:MayPlace s.heap f x->MayRun im s f x own:=fun hp=>by
      refine ⟨hnn5,hdst,?_,?_,hlent,?_,?_,?_,?_,?_,?_,?_,?_⟩ <;> intro e' <;> first | (exfalso; omega) | exact hp
     refine ⟨fun h9=>?_,fun h9=>retT (fin fun hne=>absurd (by simpa using h9) hne) hx7⟩
     simp at h9
     have e1':w64 (x.into - 1)=x.into - 1:=q07 (by omega) (by omega)
     rw [e1']
     have hi0:0<=x.into - 1/\x.into - 1 < f.held.length:=by omega
     refine ⟨h,F7.g5,by omega,by omega,_,F7.held.atI hi0.1 hi0.2,fun h10=>?_,fun h10=>retT (fin fun _ hne=>absurd (by simpa using h10) hne) hx7⟩
     simp at h10
     obtain ⟨hw,dd,hdd,_⟩:=C.keptAt _ (q18 hi0.1 hi0.2) h10
     have hltd:=q04 hdd
     have hix:ix (at' f.held (x.into - 1))=(at' f.held (x.into - 1) - 1000).toNat:=rfl
     have e2':w64 (at' f.held (x.into - 1) - 1000)=at' f.held (x.into - 1) - 1000:=q07 (by omega) (by omega)
     have hhp:=V.heap.len
     obtain ⟨f9,hf9,k0,k1,k2'⟩:=(q0h.ext hx7 V.heap).at' hdd
     have hfl9:=hf9.len
     have hce:q01 s.heap (at' f.held (x.into - 1))=dd:=by simp [q01,hdd]
     refine ⟨hp,hV.heapc,h,F7.g5,by omega,by omega,_,F7.held.atI hi0.1 hi0.2,?_⟩
     rw [e2',← hix]
     refine ⟨by omega,by omega,f9,k2',retB ?_ hx7⟩
     simp only [beq_iff_eq]
     refine ⟨fun h11=>fin fun _ _=>by rw [hce]; omega,fun hM=>?_⟩
     have:=hM.place e h9 h10
     rw [hce] at this; omega
    simp only [beq_eq_false_iff_ne] at e6
    refine ⟨fun e=>?_,fun e24=>?_⟩
    ·simp only [Bool.or_eq_true,beq_iff_eq] at e
     refine (qe9 iq7).thenS h27 hl fun b m8 hb h78 h28=>⟨b,rfl,fun h9=>retF (fun hM=>nb hb h9 (hM.zero e).1) (hx2.trans h28),fun h9=>?_⟩
     have hz1:=yb hb h9
     have F8:=F.ext (hx2.trans h28)
     refine ⟨h,F8.g5,(qe9 F8.held).thenS h28 hl fun b2 m9 hb2 h89 h29=>⟨b2,rfl,fun h10=>retF (fun hM=>nb hb2 h10 (hM.zero e).2) (hx2.trans h29),fun h10=>?_⟩⟩
     have hz2:=yb hb2 h10
     have hx9:=hx2.trans h29
     have F9:=F.ext hx9
     have fin:(x.op=23->1 < s.frames.length \/ at' f.regs (at' x.args 0) < 1000)->MayRun im s f x own:=fun hp=>by
      refine ⟨hnn5,hdst,?_,?_,hlent,?_,?_,?_,?_,?_,?_,?_,?_⟩ <;> intro e' <;> first | exact hp e' | (exfalso; omega) | exact ⟨hz1,hz2⟩
     have hfl:=V.frames.len
     refine ⟨fun h11=>retT (fin fun e'=>by simp at h11; omega) hx9,fun h11=>⟨fr,hx9.gcell V.framesc,fun h12=>retT (fin fun _=>Or.inl (by simp at h12; omega)) hx9,fun h12=>?_⟩⟩
     simp at h11 h12
     have e23:x.op=23:=by omega
     have h1:=C.args4.2.1 (by omega)
     have h0:=arg0 (by omega)
     refine ⟨r,F9.g3,by omega,by omega,_,ga hx9 (by omega),h0.1,by omega,_,F9.regs.atI h0.1 h0.2,retB ?_ hx9⟩
     simp
     refine ⟨fun h13=>fin fun _=>Or.inr h13,fun hM=>?_⟩
     rcases hM.ret e23 with h14 | h14
     ·omega
     ·exact h14
    simp only [Bool.or_eq_false_iff,beq_eq_false_iff_ne] at e24
    refine ⟨fun e=>?_,fun e11=>?_⟩
    ·simp only [beq_iff_eq] at e
     refine (qn9 hV (hx7.gcell hcons) C F7 (ha.ext hx7) e hhl).thenS h27 hl fun b m8 hb h78 h28=>⟨b,rfl,retB (hb.trans ?_) (hx2.trans h28)⟩
     refine ⟨fun hp=>?_,fun h=>h.apply e⟩
     refine ⟨hnn5,hdst,?_,?_,hlent,?_,?_,?_,?_,?_,?_,?_,?_⟩ <;> intro e' <;> first | (exfalso; omega) | exact hp
    simp only [beq_eq_false_iff_ne] at e11
    refine ⟨fun e=>?_,fun e15=>?_⟩
    ·simp only [beq_iff_eq] at e
     have h1:=C.args4.2.1 (by omega)
     have h0:=arg0 (by omega)
     refine ⟨r,F7.g3,by omega,by omega,_,ga hx7 (by omega),h0.1,by omega,_,F7.regs.atI h0.1 h0.2,retB ?_ hx7⟩
     simp only [ge_iff_le,decide_eq_true_eq]
     refine ⟨fun hp=>?_,fun h=>h.drop e⟩
     refine ⟨hnn5,hdst,?_,?_,hlent,?_,?_,?_,?_,?_,?_,?_,?_⟩ <;> intro e' <;> first | (exfalso; omega) | exact hp
    simp only [beq_eq_false_iff_ne] at e15
    refine ⟨fun e=>?_,fun e14=>?_⟩
    ·simp only [Bool.or_eq_true,beq_iff_eq] at e
     refine (qj8 hV C F7 (ha.ext hx7) (by omega) hhl).thenS h27 hl fun b m8 hb h78 h28=>⟨b,rfl,retB (hb.trans ?_) (hx2.trans h28)⟩
     refine ⟨fun hp=>?_,fun h=>⟨h.dup,h.load,h.switch,h.open'⟩⟩
     refine ⟨hnn5,hdst,?_,?_,hlent,?_,?_,?_,hp.1,?_,hp.2.2.2,hp.2.1,hp.2.2.1⟩ <;> intro e' <;> exfalso <;> omega
    ·simp only [Bool.or_eq_false_iff,beq_eq_false_iff_ne] at e14
     refine retT ?_ hx7
     refine ⟨hnn5,hdst,?_,?_,hlent,?_,?_,?_,?_,?_,?_,?_,?_⟩ <;> intro e' <;> exfalso <;> omega
end
section
theorem q5r (w:Int) (m:Mem):Gets Tryz.prog q3r [vi w] m (vi (q1g w)):=by
 apply qdv
 unfold q1g
 exact ⟨fun h=>by simp at h; rw [if_pos h]; exact ⟨rfl,Ext.refl _⟩,fun h=>by simp at h; rw [if_neg (by omega)]; exact ⟨rfl,Ext.refl _⟩⟩
theorem qca {N:Nat} {ro:Nat->Nat} {m:Mem} {hb:Nat} {hp:Sl} {h:List Cell} (hh:q0u N ro m hp h) (hn:∀ b,m.size<=b->ro b=0) (kb:Blk m hb q1a [.s hp]) (hr:ro hb=5) (hsm:h.length<=2000000000) :
  q08 Tryz.prog q5o [vp hb 0] m fun _ m'=>q0u N ro m' (hp.cut 0 (trimN h h.length) 3) (trim h)/\Blk m' hb q1a [.s (hp.cut 0 (trimN h h.length) 3)]/\HC ro m ro m':=by
 apply qg7 (hb,0)
 have hl:=hh.len
 have hcs:=hh.cells (by omega)
 have hcap:=hcs.cap
 have g:gcell m hb 0=some (Sl.v hp):=kb.get 0
 refine ⟨hp,g,fun i m'=>m'=m/\∃ n:Nat,i=n/\n<=h.length/\trimN h n=trimN h h.length,fun i _=>i.toNat,⟨rfl,h.length,by omega,Nat.le_refl _,rfl⟩,?_⟩
 rintro i m1 ⟨rfl,n,rfl,hn',ht⟩
 have e0:Int.toNat (0:Int)=0:=rfl
 have en:Int.toNat (n:Int)=n:=by omega
 have fin:trimN h n=n->q0u N ro (scells m1 hb 0 [.s (hp.cut 0 n 3)]) (hp.cut 0 (trimN h h.length) 3) (trim h)/\Blk (scells m1 hb 0 [.s (hp.cut 0 n 3)]) hb q1a [.s (hp.cut 0 (trimN h h.length) 3)]/\HC ro m1 ro (scells m1 hb 0 [.s (hp.cut 0 n 3)]):=fun e=>by
  have hc:Chg (fun k=>k=5) ro m1 ro (scells m1 hb 0 [.s (hp.cut 0 n 3)]):=Chg.scells hn hr _ _
  have e1:trimN h h.length=n:=by rw [← ht,e]
  rw [e1]
  refine ⟨?_,Blk.scells (m:=m1) (o:=0) (r:=[.s (hp.cut 0 n 3)]) kb,hc.mono fun k hk=>Or.inr (Or.inl hk)⟩
  have:=(hh.chg hc (by decide) (by decide)).cut hn'
  unfold trim; rw [e1]; exact this
 refine ⟨fun h1=>?_,fun h1=>?_⟩
 ·simp only [gt_iff_lt,decide_eq_true_eq] at h1
  obtain ⟨k,rfl⟩:∃ k,n=k+1:=⟨n - 1,by omega⟩
  have e1:w64 (((k+1:Nat):Int) - 1)=(k:Int):=by rw [q07 (by omega) (by omega)]; omega
  obtain ⟨c,hc⟩:=q00 (l:=h) (k:=k) (by omega)
  obtain ⟨f,hf,g0,_⟩:=hcs.at' hc
  refine ⟨hp,g,?_⟩
  rw [e1]
  refine ⟨by omega,by omega,c.count,by simpa using g0,fun h2=>⟨⟨rfl,k,rfl,by omega,?_⟩,by show (k:Int).toNat < ((k+1:Nat):Int).toNat; omega⟩,fun h2=>⟨hp,g,by omega,by omega,by omega,kb.wrOk (by simp),?_⟩⟩
  ·rw [← ht,qr6 hc (by simpa using h2)]
  ·rw [e0,en]; exact fin (qo5 hc (by simpa using h2))
 ·simp only [gt_iff_lt,decide_eq_false_iff_not] at h1
  have hn0:n=0:=by omega
  subst hn0
  exact ⟨hp,g,by omega,by omega,by omega,kb.wrOk (by simp),fin rfl⟩
theorem qkq {N:Nat} {ro:Nat->Nat} {m:Mem} {hb:Nat} {hp:Sl} {h:List Cell} (hh:q0u N ro m hp h) (hn:∀ b,m.size<=b->ro b=0) (kb:Blk m hb q1a [.s hp]) (hr:ro hb=5) {w:Int} {e:Nat->Int} (hI:HInv h (fun b=>e b+occ [w] b)) (he:∀ b,0<=e b) (hsm:h.length<=2000000000) :
  q08 Tryz.prog q8t [vp hb 0,vi w] m fun _ m'=>∃ ro' hp',q0u N ro' m' hp' (trim (dropS h [w]))/\Blk m' hb q1a [.s hp']/\HC ro m ro' m':=by
 apply qgk (hb,0)
 intro m1
 have h1:Ext m m1:=(Ext.refl m).pushed _
 have s1:m1.size=m.size+1:=by simp [m1]
 have o1:Own m m1 ty_int 1 (.mk m.size 0 1 1) ([w].map Ce.i):=Own.new (Ext.refl m) ty_int 1 _ 1 (by simp)
 have c1:HC ro m (upd ro m.size 6) m1:=Chg.upd h1 hn (Nat.le_refl _) (by omega) 6
 have a1:Arr (upd ro m.size 6) m1 ty_int 1 6 (.mk m.size 0 1 1) ([w].map Ce.i):=Arr.ofOwn o1 fun _=>q21 _ _ _
 have hh1:q0u N (upd ro m.size 6) m1 hp h:=hh.chg (Chg.upd (p:=fun _=>False) h1 hn (Nat.le_refl _) (by omega) 6) id id
 have kb1:=kb.ext h1
 have hr1:upd ro m.size 6 hb=5:=by rw [q1y (by have:=kb.lt; omega)]; exact hr
 clear_value m1
 have hfs:=qpn fun c hc=>(hI.cell c hc).fl
 have hlen:=hh.len
 refine whileG1 (γ:=List Cell × List Int) (fun g todo m'=>∃ ro',q0u N ro' m' hp g.1/\Arr ro' m' ty_int 1 6 todo (g.2.reverse.map Ce.i)/\HC ro m ro' m'/\HInv g.1 (fun b=>e b+occ g.2 b)/\dropS g.1 g.2=dropS h [w]/\g.1.length=h.length/\g.2.length+fsum g.1<=1+fsum h/\Blk m' hb q1a [.s hp]/\ro' hb=5) (fun g=>bulk g.1+g.2.length) (h,[w])
  ⟨_,hh1,a1,c1,hI,rfl,rfl,by simp,kb1,hr1⟩ ?_
 rintro ⟨hc,st⟩ todo m2 I μ ⟨ro2,hh2,a2,c2,hI2,hd2,hl2,hf2,kb2,hr2⟩ next
 simp only [] at hh2 a2 hI2 hd2 hl2 hf2
 have htl:todo.len=st.length:=by have:=a2.len; simp at this; omega
 refine ⟨fun h3=>?_,fun h3=>?_⟩
 ·simp only [gt_iff_lt,decide_eq_true_eq] at h3
  cases st with
  | nil=>simp at htl; omega
  | cons x r =>
   simp only [List.reverse_cons] at a2
   obtain ⟨p1,p2,p3⟩:=a2.pop
   simp only [List.length_cons,List.length_reverse] at htl p1 p2 p3 hf2
   have e1:w64 ((todo.len:Int) - 1)=(r.length:Int):=by rw [q07 (by omega) (by omega)]; omega
   have hcap:=a2.le
   have e2:Int.toNat (0:Int)=0:=rfl
   have e3:Int.toNat (r.length:Int)=r.length:=by omega
   have hxl:1000<=x->live hc x:=fun hx=>hI2.dropLive he hx
   have hxb:x<=9223372036854775807:=by
    rcases Classical.em (1000<=x) with h5 | h5
    ·have:=q04 (q0i (hxl h5)).1; unfold ix at this; omega
    ·omega
   refine ⟨hp,kb2.get 0,?_⟩
   rw [e1,e2,e3]
   refine ⟨by omega,by omega,x,p2,(q2f (hh2.cells (by omega)) hxb).mono ?_⟩
   rintro _ m3 ⟨aa,b,rfl,hb',hba,h4⟩
   refine ⟨aa,b,rfl,by omega,by omega,by omega,fun hbt=>?_,fun hbf=>?_⟩
   ·have hx:=nb hb' hbt
    have hc3:HC ro2 m2 ro2 m3:=Chg.ofExt _ h4 c2.new
    refine next (hc,r) _ _ ⟨ro2,hh2.chg (Chg.ofExt (fun _=>False) h4 c2.new) id id,p3.chg (Chg.ofExt (fun _=>False) h4 c2.new) id,c2.trans hc3,hI2.dropInt ?_,?_,hl2,by simp only []; omega,kb2.ext h4,hr2⟩ (by simp)
    ·rcases Classical.em (1000<=x) with h5 | h5
     ·exact absurd (hxl h5) hx
     ·omega
    ·rw [← q9p (w:=x) hx]; exact hd2
   ·have hlv:=yb hb' hbf
    have haa:=hba (by simpa using hbf)
    subst haa
    obtain ⟨hcc,hpos⟩:=q0i hlv
    have hlt:=q04 hcc
    have hmx:=(hI2.cell _ (q05 hcc)).hi
    have eix:Int.toNat ((ix x:Nat):Int)=ix x:=by omega
    have hc3:HC ro2 m2 ro2 m3:=Chg.ofExt _ h4 c2.new
    have hh3:q0u N ro2 m3 hp hc:=hh2.chg (Chg.ofExt (fun _=>False) h4 c2.new) id id
    have a3:=p3.chg (Chg.ofExt (fun _=>False) h4 c2.new) id
    have kb3:=kb2.ext h4
    obtain ⟨f0,g0,_,_,_,_⟩:=hh3.get hcc
    refine ⟨hp,kb3.get 0,?_⟩
    rw [eix]
    refine ⟨by omega,by omega,_,g0,by omega,by omega,hh3.wr (o:=0) hlt (by decide),?_⟩
    have e5:w64 ((q01 hc x).count - 1)=(q01 hc x).count - 1:=q07 (by omega) (by omega)
    rw [e5]
    intro m4
    obtain ⟨hh4,c4⟩:=hh3.setCount hc3.new hcc ((q01 hc x).count - 1)
    have a4:=a3.chg c4 (by decide)
    have kb4:Blk m4 hb q1a [.s hp]:=kb3.congr (c4.keep _ kb3.lt (by rw [hr2]; decide))
    have c24:HC ro m ro2 m4:=(c2.trans hc3).trans (c4.mono fun k hk=>Or.inl hk)
    have hbk:=q3w (c':=free) hcc
    simp only [if_pos hpos,free] at hbk
    simp at hbk
    have hset:(hc.set (ix x) { q01 hc x with count:=(q01 hc x).count - 1 })[ix x]?=some { q01 hc x with count:=(q01 hc x).count - 1 }:=q1d hcc
    obtain ⟨f1,k0,_,k2,kf,kr⟩:=hh4.get hset
    refine ⟨hp,kb4.get 0,by omega,by omega,_,k0,fun h5=>?_,fun h5=>?_⟩
    ·simp only [beq_iff_eq] at h5
     have hone:(q01 hc x).count=1:=by omega
     have hfl:=(hI2.cell _ (q05 hcc)).fl
     have hfll:=kf.len
     simp only [] at hfll kf kr
     have hfs2:=qd9 free hcc
     simp only [free,List.length_nil] at hfs2
     refine ⟨hp,kb4.get 0,by omega,by omega,f1,k2,Arr.append (zs:=[.i 0]) (new:=(q01 hc x).fields.map Ce.i) a4 c24.new (by simp [hfll]) kf.rows ?_ fun ro5 q m5 q1 q2=>?_⟩
     ·have:(todo.cut 0 r.length 1).len=r.length:=by have:=a4.len; simp at this; omega
      rw [this,hfll]; omega
     have hh5:=hh4.chg q2 (by decide) (by decide)
     have c25:HC ro m ro5 m5:=c24.trans (q2.mono fun k hk=>Or.inr (Or.inr hk))
     have kb5:Blk m5 hb q1a [.s hp]:=kb4.congr (q2.keep _ kb4.lt (by rw [hr2]; decide))
     have hr5:ro5 hb=5:=by rw [q2.role _ kb4.lt]; exact hr2
     have hlt6:ix x < (hc.set (ix x) { q01 hc x with count:=(q01 hc x).count - 1 }).length:=by simpa using hlt
     refine ⟨hp,kb5.get 0,by omega,by omega,hh5.wr (o:=0) hlt6 (by decide),?_⟩
     intro m7
     obtain ⟨hh7,c7⟩:=hh5.setCell c25.new hlt6 0 0 (f:=.nil) (l:=[]) ⟨rfl,by simp,by simp,by simp⟩ (fun hne=>absurd rfl hne)
     rw [List.set_set] at hh7
     refine next (hc.set (ix x) free,(q01 hc x).fields.reverse ++ r) _ _ ⟨ro5,hh7,?_,c25.trans (c7.mono fun k hk=>Or.inl hk),hI2.dropOne he hlv hone,?_,by simpa using hl2,?_,kb5.congr (c7.keep _ kb5.lt (by rw [hr5]; decide)),hr5⟩ ?_
     ·have:=q1.chg c7 (by decide)
      simpa using this
     ·rw [← qbe hlv hone]; exact hd2
     ·simp only [List.length_append,List.length_reverse]
      have e6:fsum (hc.set (ix x) free)+(q01 hc x).fields.length=fsum hc:=by simpa [free] using hfs2
      omega
     ·simp only [List.length_append,List.length_reverse,List.length_cons]
      have e6:bulk (hc.set (ix x) free)+((q01 hc x).count.toNat+(q01 hc x).fields.length)=bulk hc:=by simpa [free] using hbk
      omega
    ·simp only [beq_eq_false_iff_ne] at h5
     have hne:(q01 hc x).count ≠ 1:=by omega
     have hbk2:=q3w (c':={ q01 hc x with count:=(q01 hc x).count - 1 }) hcc
     simp only [if_pos hpos] at hbk2
     rw [if_pos (by omega)] at hbk2
     have hfs2:=qd9 { q01 hc x with count:=(q01 hc x).count - 1 } hcc
     refine next (less hc x,r) _ _ ⟨ro2,hh4,a4,c24,hI2.dropMore he hlv hne,?_,by simpa [less] using hl2,?_,kb4,hr2⟩ ?_
     ·rw [← q9a hlv hne]; exact hd2
     ·simp only [less]; simp only [] at hfs2; omega
     ·simp only [less,List.length_cons]; omega
 ·simp only [gt_iff_lt,decide_eq_false_iff_not] at h3
  have hst:st=[]:=List.length_eq_zero_iff.1 (by omega)
  subst hst
  rw [qbg] at hd2
  subst hd2
  refine (qca hh2 c2.new kb2 hr2 (by omega)).mono ?_
  rintro _ m3 ⟨hh3,kb3,c3⟩
  exact ⟨ro2,_,hh3,kb3,c2.trans c3⟩
theorem qs3 {m:Mem} {hp:Sl} {h:List Cell} (hh:q0h m hp h):q08 Tryz.prog q2l [Sl.v hp,.func (.func q33) #[] #[]] m fun v m'=>∃ r:Int,v=vi r/\Ext m m'/\(if q0t h=h.length then r=-1 else r=q0t h):=by
 apply q5d hp (.func q33,#[],#[])
 have hl:=hh.len
 refine forI (n:=h.length) (hl ▸ hh.lim) (fun k m'=>Ext m m'/\∀ c ∈ h.take k,c.count ≠ 0) ⟨Ext.refl _,by simp⟩ ?_
 rintro k m1 I μ hk ⟨hx,hn⟩ next
 refine ⟨fun h1=>?_,fun h1=>?_⟩
 ·simp only [decide_eq_true_eq] at h1
  obtain ⟨c,hc⟩:=q00 (l:=h) (k:=k) (by omega)
  obtain ⟨f,hf,g0,g1,g2⟩:=(q0h.ext hx hh).at' hc
  refine ⟨by omega,by omega,c.count,by simpa using g0,_,by simpa using g1,f,by simpa using g2,q33,rfl,by decide,?_⟩
  have hcall:q0o Tryz.prog q33 [.agg #[vi c.count,vi c.tag,Sl.v f]] m1 (c.count=0):=by
   apply qdw
   simp -zeta only [q0a,q09,rI,rS,rB,cI,cB,cS,dI,dB,dS,gk,rg]
   intro m2
   exact retB (by simp) ((Ext.refl m1).pushed _)
  refine q08.mono hcall ?_
  rintro _ m2 ⟨b,rfl,hb,h12⟩
  refine ⟨b,rfl,fun hbt=>⟨_,rfl,hx.trans h12,?_⟩,fun hbf=>next (by omega) _ ⟨hx.trans h12,q0f hc hn (fb hb hbf)⟩⟩
  have hfx:=qjs h k c hn hc (hb.1 hbt)
  have:=q04 hc
  rw [if_neg (by omega),hfx]
 ·simp only [decide_eq_false_iff_not] at h1
  refine ⟨_,rfl,hx,?_⟩
  have:=qet h k hk hn
  have:=q6s h
  rw [if_pos (by omega)]
theorem qk2 {N:Nat} {ro:Nat->Nat} {m:Mem} {hb:Nat} {hp:Sl} {h:List Cell} (hh:q0u N ro m hp h) (hn:∀ b,m.size<=b->ro b=0) (kb:Blk m hb q1a [.s hp]) (hr:ro hb=5) (t:Int) {fs:Sl} {l:List Int} (hf:q03 m fs l) (hsm:h.length<=1000000000) (hl:l.length<=1000000000) (hN:N<=m.size) :
  q08 Tryz.prog q79 [vp hb 0,vi t,Sl.v fs] m fun v m'=>∃ ro' hp',v=vi (1000+q0t h)/\q0u N ro' m' hp' (place h (q0t h) ⟨1,t,l⟩)/\Blk m' hb q1a [.s hp']/\HC ro m ro' m':=by
 apply qf9 (hb,0)
 simp -zeta only [q0a,q09,rI,rS,rB,cI,cB,cS,dI,dB,dS,gk,rg]
 refine (q1k hf hl).then hl fun s m1 o1 i1 h1=>⟨s,rfl,?_⟩
 intro m2 m3
 have h13:Ext m1 m3:=((Ext.refl m1).pushed _).scells (Nat.le_refl _) _ _
 have s3:m3.size=m1.size+1:=by simp [m3,m2,q02]
 have hx3:=h1.trans h13
 clear_value m3
 have hs0:l ≠ []->ro s.blk=0:=fun hne=>by
  rcases o1.blk with e | e
  ·subst e; have:=i1.len; simp at this; exact absurd (List.length_eq_zero_iff.1 this.symm) hne
  ·exact hn _ e
 have hbx:ro m1.size=0:=hn _ h1.size
 have hlen:=hh.len
 have hfl:=q6s h
 refine ⟨hp,hx3.gcell (kb.get 0),(qs3 (q0h.ext hx3 (hh.cells (by omega)))).mono ?_⟩
 rintro _ m4 ⟨r,rfl,h34,hr4⟩
 have hx4:=hx3.trans h34
 have c4:HC ro m ro m4:=Chg.ofExt _ hx4 hn
 have hh4:q0u N ro m4 hp h:=hh.chg (Chg.ofExt (fun _=>False) hx4 hn) id id
 have kb4:=kb.ext hx4
 have i4:=i1.ext (h13.trans h34)
 have hs4:=h34.size
 refine ⟨h34.sam (by simp; omega),r,rfl,fun e=>?_,fun e=>?_⟩
 ·simp at e
  have hfx:q0t h=h.length:=by
   rcases Classical.em (q0t h=h.length) with h5 | h5
   ·exact h5
   ·rw [if_neg h5] at hr4; omega
  refine ⟨hp,kb4.get 0,hp,kb4.get 0,?_⟩
  intro m5
  have h45:Ext m4 m5:=(Ext.refl m4).pushed _
  have s5:m5.size=m4.size+1:=by simp [m5]
  have hrow:rowIs m5 m4.size 0 [.i 1,.i t,.s s]:=(Blk.push m4 _ _).row
  have c5:HC ro m ro m5:=c4.trans (Chg.ofExt _ h45 c4.new)
  clear_value m5
  refine ⟨h45.keepG (kb4.get 0),q0u.push (hh4.chg (Chg.ofExt (fun _=>False) h45 c4.new) id id) c5.new (x:=.mk m4.size 0 1 1) rfl hrow (i4.ext h45) (FOk.of hh (fun h0=>(hx4.trans h45).same _ (hh.blk h0).2) (fun _=>o1.ext ((h13.trans h34).trans h45)) hs0 hN) (by omega) fun ro' q m6 q1 q2=>?_⟩
  have kb5:=kb4.ext h45
  have kb6:Blk m6 hb q1a [.s hp]:=kb5.congr (q2.keep _ kb5.lt (by rw [hr]; decide))
  have hr6:ro' hb=5:=by rw [q2.role _ kb5.lt]; exact hr
  have hb6:ro' m1.size=0:=by rw [q2.role _ (by omega)]; exact hbx
  refine ⟨fun b hb'=>?_,kb6.wrOk (by simp),?_⟩
  ·simp at hb'; subst hb'
   exact q2.keep _ (by omega) (by rw [hbx]; decide)
  intro m7
  have c7:Chg (fun k=>k=5) ro' m6 ro' m7:=Chg.scells q2.new hr6 _ _
  have e2:w64 (1000+(hp.len:Int))=1000+(q0t h:Int):=by rw [q07 (by omega) (by omega)]; omega
  rw [e2]
  refine ⟨fun b hb'=>?_,ro',q,rfl,?_,Blk.scells (m:=m6) (o:=0) (r:=[.s q]) kb6,(c5.trans (q2.mono fun k hk=>Or.inl hk)).trans (c7.mono fun k hk=>Or.inr (Or.inl hk))⟩
  ·simp at hb'; subst hb'
   exact c7.keep _ (by have:=q2.size; omega) (by rw [hb6]; decide)
  ·rw [place,if_pos hfx]; exact q1.chg c7 (by decide) (by decide)
 ·simp at e
  have hfx:q0t h ≠ h.length:=fun h5=>by rw [if_pos h5] at hr4; omega
  rw [if_neg hfx] at hr4
  subst hr4
  have hlt:q0t h < h.length:=by omega
  have e1:Int.toNat ((q0t h:Nat):Int)=q0t h:=by omega
  have e2:w64 (1000+(q0t h:Int))=1000+(q0t h:Int):=q07 (by omega) (by omega)
  refine ⟨hp,kb4.get 0,?_⟩
  rw [e1,e2]
  refine ⟨by omega,by omega,hh4.wr (o:=0) hlt (by decide),?_⟩
  intro m5
  obtain ⟨q1,q2⟩:=hh4.setCell c4.new hlt 1 t i4 (FOk.of hh (fun h0=>hx4.same _ (hh.blk h0).2) (fun _=>o1.ext (h13.trans h34)) hs0 hN)
  refine ⟨fun b hb'=>?_,ro,hp,rfl,?_,kb4.congr (q2.keep _ kb4.lt (by rw [hr]; decide)),c4.trans (q2.mono fun k hk=>Or.inl hk)⟩
  ·simp at hb'; subst hb'
   exact q2.keep _ (by omega) (by rw [hbx]; decide)
  ·rw [place,if_neg hfx]; exact q1
end
section
theorem qri {op a b:Int} (ha:isInt a) (hb:isInt b) (m:Mem):Gets Tryz.prog qen [vi op,vi a,vi b] m (vi (prim op a b)):=by
 unfold isInt at ha hb
 have hm:-2000000<=a*b/\a*b<=2000000:=by
  have h1:(a*b).natAbs<=999*999:=by rw [Int.natAbs_mul]; exact Nat.mul_le_mul (by omega) (by omega)
  omega
 have cl:∀ n:Int,(if (999:Int) < (if (-999:Int) > n then (-999:Int) else n) then (999:Int) else (if (-999:Int) > n then (-999:Int) else n))=clamp n:=fun n=>by
  unfold clamp
  repeat' split
  all_goals omega
 have w1:w64 (a+b)=a+b:=q07 (by omega) (by omega)
 have w2:w64 (a - b)=a - b:=q07 (by omega) (by omega)
 have w3:w64 (a*b)=a*b:=q07 (by omega) (by omega)
 apply qo1
 rw [w1,w2,w3,cl,cl,cl]
 unfold prim
 refine ⟨fun h=>by simp at h; omega,fun _=>⟨fun h=>by simp at h; omega,fun _=>⟨fun h=>by simp at h; omega,fun _=>⟨fun h=>by simp at h; omega,fun _=>⟨fun h1=>?_,fun h1=>⟨fun h2=>?_,fun h2=>⟨fun h3=>?_,fun h3=>⟨fun h4=>⟨fun h5=>?_,fun h5=>?_⟩,fun h4=>?_⟩⟩⟩⟩⟩⟩⟩⟩
 ·simp at h1; rw [if_pos h1]; exact ⟨rfl,Ext.refl _⟩
 ·simp at h1 h2; rw [if_neg h1,if_pos h2]; exact ⟨rfl,Ext.refl _⟩
 ·simp at h1 h2 h3; rw [if_neg h1,if_neg h2,if_pos h3]; exact ⟨rfl,Ext.refl _⟩
 ·simp at h1 h2 h3 h4 h5
  have h45:op=4/\a < b:=⟨h4,h5⟩
  rw [if_neg h1,if_neg h2,if_neg h3,if_pos h45]; exact ⟨rfl,Ext.refl _⟩
 ·simp at h1 h2 h3 h4 h5
  have h45:¬ (op=4/\a < b):=by omega
  rw [if_neg h1,if_neg h2,if_neg h3,if_neg h45]; exact ⟨rfl,Ext.refl _⟩
 ·simp at h1 h2 h3 h4
  have h45:¬ (op=4/\a < b):=by omega
  rw [if_neg h1,if_neg h2,if_neg h3,if_neg h45]; exact ⟨rfl,Ext.refl _⟩
theorem qbq {m:Mem} {fb fo:Nat} {f:Frame} {r:Sl} (g3:gcell m fb (fo+3)=some (Sl.v r)) (hr:q03 m r f.regs) {s:Sl} {l:List Int} (hs:q03 m s l) (hin:∀ y ∈ l,0<=y/\y < f.regs.length) (hsm:l.length<=100000000) :
  GivesI q2q [vp fb fo,Sl.v s] m (words f l):=by
 apply qes (fb,fo)
 have hsl:=hs.len
 have hrl:=hr.len
 have e0:Int.toNat (s.len:Int)=l.length:=by omega
 rw [e0]
 refine ⟨by omega,Int.le_refl _,by omega,by omega,?_⟩
 intro m1
 have h1:Ext m m1:=(Ext.refl m).pushed _
 have k1:Blk m1 m.size ty_int ((q0p l.length).map Ce.i):=by rw [← q72]; exact Blk.push m _ _
 have s1:m1.size=m.size+1:=by simp [m1]
 clear_value m1
 simp only [Sl.blk_mk,Sl.off_mk,Sl.len_mk,Nat.zero_add]
 refine forI (n:=l.length) (by omega) (fun k m'=>Ext m m'/\Blk m' m.size ty_int ((words f (l.take k) ++ q0p (l.length - k)).map Ce.i)) ⟨h1,by simpa [words] using k1⟩ ?_
 rintro k m2 I μ hk ⟨hx,kk⟩ next
 refine ⟨fun h=>?_,fun h=>?_⟩
 ·simp only [decide_eq_true_eq] at h
  obtain ⟨y,hy⟩:=q00 (l:=l) (k:=k) (by omega)
  have hyr:=hin y (q05 hy)
  have ek:Int.toNat (k:Int)*1=k:=by omega
  refine ⟨by omega,by omega,y,by simpa using hx.gcell (hs.at' hy),r,hx.gcell g3,hyr.1,by omega,_,hx.gcell (hr.atI hyr.1 hyr.2),by omega,by omega,?_⟩
  rw [ek]
  have hwl:(words f (l.take k)).length=k:=by simp [words]; omega
  refine ⟨kk.wrOk (by simp [hwl,q31]; omega),?_⟩
  refine next (by omega) _ ⟨hx.scells (Nat.le_refl _) _ _,?_⟩
  have:=Blk.scells (m:=m2) (o:=k) (r:=[.i (at' f.regs y)]) kk
  have e1:setL ((words f (l.take k) ++ q0p (l.length - k)).map Ce.i) k [.i (at' f.regs y)]=(words f (l.take (k+1)) ++ q0p (l.length - (k+1))).map Ce.i:=by
   have hz:q0p (l.length - k)=0 :: q0p (l.length - (k+1)):=by
    have:l.length - k=(l.length - (k+1))+1:=by omega
    rw [this]; rfl
   rw [hz,List.map_append,setL_app_right _ _ _ _ (by simp [hwl])]
   simp only [List.length_map,hwl,Nat.sub_self,List.map_cons,setL,List.set_cons_zero]
   rw [q06 hy]
   simp [words]
  rw [e1] at this; exact this
 ·simp only [decide_eq_false_iff_not] at h
  have hkl:k=l.length:=by omega
  subst hkl
  rw [List.take_length,Nat.sub_self] at kk
  simp only [q0p,List.replicate_zero,List.append_nil] at kk
  refine ⟨_,rfl,⟨by simp [words],Or.inr ⟨m.size,l.length,[],rfl,Nat.le_refl _,by rw [List.append_nil]; exact kk,by simp [words],Nat.le_refl _⟩⟩,hx⟩
abbrev IB (d p:Sl) (c:Int) (s:St) (out hp fr:Sl):List Ce:=[.s d,.s p,.i c,.i s.status,.i s.value,.i s.calls,.i s.most,.s out,.s hp,.s fr]
def IFin (m0:Mem) (ro:Nat->Nat) (m:Mem) (mb:Nat) (d p:Sl) (c:Int) (s:St) (m':Mem):Prop :=
 ∃ ro' out hp fr,Lay m0 ro' m' mb q0k (IB d p c s out hp fr) out hp fr s.out s.heap s.frames/\To ro m ro' m'
theorem IFin.from {m0:Mem} {ro ro1:Nat->Nat} {m m1 m':Mem} {mb:Nat} {d p:Sl} {c:Int} {s:St} (h:IFin m0 ro1 m1 mb d p c s m') (ht:To ro m ro1 m1):IFin m0 ro m mb d p c s m' :=
 let ⟨ro',out,hp,fr,h1,h2⟩:=h
 ⟨ro',out,hp,fr,h1,ht.trans h2⟩
section
variable {m0:Mem} {ro ro':Nat->Nat} {m m':Mem} {mb e:Nat} {bx:List Ce} {out hp fr:Sl} {lo:List Int} {lh:List Cell} {fs:List Frame} {f:Frame} {r o h:Sl} {css:List (List Ce)}
theorem ST.chgF (S:ST m0 ro m mb e bx out hp fr lo lh fs f r o h css) (hc:Chg (fun _=>False) ro m ro' m'):ST m0 ro' m' mb e bx out hp fr lo lh fs f r o h css/\To ro m ro' m':=by
 obtain ⟨L,t⟩:=S.lay.setHeap (hc.mono fun _=>False.elim) (S.lay.heap.chg hc id id)
 exact ⟨⟨L,S.top.chg hc fun _ _=>id⟩,t⟩
theorem ST.fp (S:ST m0 ro m mb e bx out hp fr lo lh fs f r o h css) (hl:f.regs.length<=1000000/\f.own.length<=1000000/\f.held.length<=1000000):FP m fr.blk (fr.off+fs.length*6) f r o h:=by
 obtain ⟨_,_,_,g3,g4,g5⟩:=S.top.row
 exact ⟨g3,g4,g5,S.regSl hl.1,S.ownSl hl.2.1,S.heldSl hl.2.2⟩
theorem q7s (S:ST m0 ro m mb e bx out hp fr lo lh fs f r o h css) {i:Int} (h0:0<=i) (h1:i < f.regs.length) (h2:i < f.own.length) (w own:Int) :
  q08 Tryz.prog q1m [vp fr.blk (fr.off+fs.length*6),vi i,vi w,vi own] m fun _ m'=>ST m0 ro m' mb e bx out hp fr lo lh fs (f.put i w own) r o h css/\To ro m ro m':=by
 apply qgj (fr.blk,fr.off+fs.length*6)
 obtain ⟨_,_,_,g3,g4,g5⟩:=S.top.row
 have hrl:r.len=f.regs.length:=by have:=S.top.regs.len; simp at this; omega
 have hol:o.len=f.own.length:=by have:=S.top.own.len; simp at this; omega
 obtain ⟨S1,t1⟩:=S.setReg h0 h1 w
 obtain ⟨S2,t2⟩:=S1.setOwn h0 (by simpa using h2) own
 exact ⟨r,g3,o,g4,h0,by omega,S.top.regs.wrI h0 h1,h0,by omega,S1.top.own.wrI h0 h2,S2,t1.trans t2⟩
end
section
variable {m0:Mem} {ro:Nat->Nat} {m:Mem} {mb:Nat} {d p out hp fr:Sl} {c:Int} {s:St} {fs:List Frame} {f:Frame} {r o h:Sl} {css:List (List Ce)}
theorem ST.heapBox {e:Nat} {bx:List Ce} {lo:List Int} {lh:List Cell} (S:ST m0 ro m mb e bx out hp fr lo lh fs f r o h css) :
  ST m0 (upd ro m.size 5) (scells (m.push (.cells (vals [.s Sl.nil]) q1a)) m.size 0 [.s hp]) mb e bx out hp fr lo lh fs f r o h css/\To ro m (upd ro m.size 5) (scells (m.push (.cells (vals [.s Sl.nil]) q1a)) m.size 0 [.s hp]) /\
   Blk (scells (m.push (.cells (vals [.s Sl.nil]) q1a)) m.size 0 [.s hp]) m.size q1a [.s hp]:=by
 have hx:Ext m (scells (m.push (.cells (vals [.s Sl.nil]) q1a)) m.size 0 [.s hp]):=((Ext.refl m).pushed _).scells (Nat.le_refl _) _ _
 have hc:Chg (fun _=>False) ro m (upd ro m.size 5) (scells (m.push (.cells (vals [.s Sl.nil]) q1a)) m.size 0 [.s hp]):=Chg.upd hx S.lay.new (Nat.le_refl _) (by rw [q02]; simp) 5
 obtain ⟨S1,t1⟩:=S.chgF hc
 exact ⟨S1,t1,Blk.scells (m:=m.push (.cells (vals [.s Sl.nil]) q1a)) (o:=0) (r:=[.s hp]) (Blk.push m _ _)⟩
theorem qha (S:ST m0 ro m mb q0k (IB d p c s out hp fr) out hp fr s.out s.heap fs f r o h css) (t:Int) {ws:Sl} {l:List Int} (hw:q03 m ws l) (hl:l.length<=1000000) (hhl:s.heap.length<=1000000000) :
  q08 Tryz.prog q2u [vp mb 0,vi t,Sl.v ws] m fun v m'=>v=vi (1000+q0t s.heap)/\∃ ro' hp',ST m0 ro' m' mb q0k (IB d p c s out hp' fr) out hp' fr s.out (place s.heap (q0t s.heap) ⟨1,t,l⟩) fs f r o h css/\To ro m ro' m':=by
 apply qdm (mb,0)
 simp -zeta only [q0a,q09,rI,rS,rB,cI,cB,cS,dI,dB,dS,gk,rg]
 refine ⟨hp,S.lay.box.get 8,?_⟩
 intro m1 m2
 obtain ⟨S2,t2,kb⟩:=S.heapBox
 have hx2:Ext m m2:=((Ext.refl m).pushed _).scells (Nat.le_refl _) _ _
 refine (qk2 S2.lay.heap S2.lay.new kb (q21 _ _ _) t (hw.ext hx2) hhl (by omega) S2.lay.base.size).mono ?_
 rintro _ m3 ⟨ro3,hp3,rfl,hh3,kb3,c3⟩
 obtain ⟨S3,t3⟩:=S2.setHeap c3 hh3
 refine ⟨_,rfl,hp3,kb3.get 0,S3.lay.wrBox (i:=8) (by simp),?_⟩
 intro m4
 obtain ⟨S4,t4⟩:=S3.setBox 8 [.s hp3]
 exact ⟨rfl,ro3,hp3,S4,(t2.trans t3).trans t4⟩
theorem qkl (S:ST m0 ro m mb q0k (IB d p c s out hp fr) out hp fr s.out s.heap fs f r o h css) {x:Instr} {a j:Sl} (ha:q03 m0 a x.args) (hargs:∀ y ∈ x.args,0<=y/\y < f.regs.length) (hal:x.args.length<=4)
  (hlen:f.regs.length=f.own.length/\f.held.length=f.own.length/\f.own.length<=2000) (hinto:0<=x.into/\x.into<=f.held.length) (hhl:s.heap.length<=1000000000) (hkept:∀ w ∈ f.held,w ≠ 0->1000<=w/\ix w < s.heap.length) :
  q08 Tryz.prog q4l [vp mb 0,vp fr.blk (fr.off+fs.length*6),xv x a j] m fun v m'=>∃ (ro':Nat->Nat) (hp':Sl) (a0:Nat) (f':Frame),v=vi (1000+a0)/\ST m0 ro' m' mb q0k (IB d p c s out hp' fr) out hp' fr s.out (place s.heap a0 ⟨1,x.num,words f x.args⟩) fs f' r o h css/\To ro m ro' m' /\
   f'.regs=f.regs/\f'.own=f.own/\f'.pc=f.pc/\(∀ pc,consSt s fs { f with pc:=pc } x x.num={ s with heap:=place s.heap a0 ⟨1,x.num,words f x.args⟩,frames:=fs ++ [Frame.put { f' with pc:=pc+1 } x.dst (1000+a0) 1] }):=by
 apply qaq (mb,0) (fr.blk,fr.off+fs.length*6)
 simp -zeta only [q0a,q09,rI,rS,rB,cI,cB,cS,dI,dB,dS,gk,rg]
 intro m1
 have hx1:Ext m m1:=(Ext.refl m).pushed _
 have s1:m1.size=m.size+1:=by simp [m1]
 obtain ⟨S1,t1⟩:=S.ext hx1
 have B1:Bx0 ro m1 [m.size]:=fun b hb=>by simp at hb; subst hb; exact ⟨by omega,S.lay.new _ (Nat.le_refl _)⟩
 clear_value m1
 have F1:=S1.fp ⟨by omega,by omega,by omega⟩
 have hhlen:h.len=f.held.length:=by have:=S.top.held.len; simp at this; omega
 refine (qbq F1.g3 F1.regs (ha.ext S1.lay.base) hargs (by omega)).mono ?_
 rintro _ m2 ⟨ws,rfl,ow,h12⟩
 obtain ⟨S2,t2⟩:=S1.ext h12
 have B2:=B1.to t2
 have hwl:(words f x.args).length=x.args.length:=by simp [words]
 have iw:q03 m2 ws (words f x.args):=q03.ofOwn ow (by omega)
 have t02:=t1.trans t2
 have none:¬ (x.into ≠ 0/\at' f.held (x.into - 1) ≠ 0)->q08 Tryz.prog q2u [vp mb 0,vi x.num,Sl.v ws] m2 fun r_1 m1_2=>Sam [m.size] m2 m1_2/\∃ r32:Int,r_1=vi r32/\∃ (ro':Nat->Nat) (hp':Sl) (a0:Nat) (f':Frame),vi r32=vi (1000+a0)/\ST m0 ro' m1_2 mb q0k (IB d p c s out hp' fr) out hp' fr s.out (place s.heap a0 ⟨1,x.num,words f x.args⟩) fs f' r o h css/\To ro m ro' m1_2 /\
   f'.regs=f.regs/\f'.own=f.own/\f'.pc=f.pc/\(∀ pc,consSt s fs { f with pc:=pc } x x.num={ s with heap:=place s.heap a0 ⟨1,x.num,words f x.args⟩,frames:=fs ++ [Frame.put { f' with pc:=pc+1 } x.dst (1000+a0) 1] }):=fun hno=>by
  refine (qha S2 x.num iw (by omega) hhl).mono ?_
  rintro _ m3 ⟨rfl,ro3,hp3,S3,t3⟩
  exact ⟨t3.samB B2,_,rfl,ro3,hp3,q0t s.heap,f,rfl,S3,t02.trans t3,rfl,rfl,rfl,fun pc=>by rw [consSt,if_neg hno]; rfl⟩
 refine ⟨t2.samB B1,ws,rfl,fun h1=>none fun hh=>by simp at h1; exact hh.1 h1,fun h1=>?_⟩
 simp at h1
 have e1:w64 (x.into - 1)=x.into - 1:=q07 (by omega) (by omega)
 have hi0:0<=x.into - 1/\x.into - 1 < f.held.length:=by omega
 have F2:=S2.fp ⟨by omega,by omega,by omega⟩
 have gh:=F2.held.atI hi0.1 hi0.2
 refine ⟨h,F2.g5,?_⟩
 rw [e1]
 refine ⟨by omega,by omega,_,gh,fun h2=>none fun hh=>by simp at h2; exact hh.2 h2,fun h2=>?_⟩
 simp at h2
 obtain ⟨hw1,hw2⟩:=hkept _ (q18 hi0.1 hi0.2) h2
 have hlen2:=S2.lay.heap.len
 refine ⟨h,F2.g5,by omega,by omega,_,gh,h,F2.g5,by omega,by omega,S2.top.held.wrI hi0.1 hi0.2,?_⟩
 intro m3
 obtain ⟨S3,t3⟩:=S2.setHeld hi0.1 hi0.2 0
 have B3:=B2.to t3
 have hix:ix (at' f.held (x.into - 1))=(at' f.held (x.into - 1) - 1000).toNat:=rfl
 have e2:w64 (at' f.held (x.into - 1) - 1000)=at' f.held (x.into - 1) - 1000:=q07 (by omega) (by omega)
 refine ⟨t3.samB B2,hp,S3.lay.box.get 8,?_⟩
 rw [e2,← hix]
 refine ⟨by omega,by omega,S3.lay.heap.wr (o:=0) hw2 (by decide),?_⟩
 intro m4
 have hz:words f x.args ≠ []->ro ws.blk=0:=fun hne=>by
  rcases ow.blk with e | e
  ·subst e; have:=iw.len; simp at this; exact absurd (List.length_eq_zero_iff.1 this.symm) hne
  ·exact S.lay.new _ (by omega)
 have iw3:q03 m3 ws (words f x.args):=q2t iw fun hne=>t3.keep _ (q2c iw hne) (by rw [hz hne]; simp)
 have hhc:h.cap ≠ 0:=fun e=>by have:=(S2.top.held.empty e).1; simp at this; rw [this] at hi0; simp at hi0; omega
 have hFO:FOk m0.size ro m3 hp s.heap ws (words f x.args):=FOk.of S1.lay.heap (fun h0=>(q0n _ _ _ _ fun e=>by have q1:=(S2.top.held.blk hhc).2; have q2:=(S2.lay.heap.blk h0).1; rw [e,q1] at q2; omega).trans (h12.same _ (S1.lay.heap.blk h0).2)) (fun hne=>ow.congr (t3.keep _ (q2c iw hne) (by rw [hz hne]; simp))) hz S1.lay.base.size
 obtain ⟨hh4,c4⟩:=S3.lay.heap.setCell S3.lay.new hw2 1 x.num iw3 hFO
 obtain ⟨S4,t4⟩:=S3.setHeap (c4.mono fun k hk=>Or.inl hk) hh4
 have hpl:place s.heap (ix (at' f.held (x.into - 1))) ⟨1,x.num,words f x.args⟩=s.heap.set (ix (at' f.held (x.into - 1))) ⟨1,x.num,words f x.args⟩:=by rw [place,if_neg (by omega)]
 refine ⟨t4.samB B3,ro,hp,ix (at' f.held (x.into - 1)),{ f with held:=setI f.held (x.into - 1) 0 },by rw [ptr_ix hw1],by rw [hpl]; exact S4,(t02.trans t3).trans t4,rfl,rfl,rfl,fun pc=>?_⟩
 rw [consSt,if_pos ⟨h1,h2⟩,hpl,ptr_ix hw1]; rfl
end
end
section
theorem qnq:∀ (ws:List Int) (g:List Cell),(∀ v ∈ ws,live g v)->∀ x,live g x->live (refer g ws) x
 | [],g,_,x,hx=>hx
 | v :: ws,g,hg,x,hx=>by
  have hlv:=hg v List.mem_cons_self
  have up:∀ y,live g y->live (bump g v) y:=fun y hy=>⟨hy.1,(Live.bump hlv _).2 hy.2⟩
  exact qnq ws (bump g v) (fun y hy=>up y (hg y (List.mem_cons_of_mem _ hy))) x (up x hx)
theorem qta {h:List Cell} {w:Int} (hl:live h w) (h1:(q01 h w).count ≠ 1) {x:Int} (hx:live h x):live (less h w) x:=by
 obtain ⟨hc,hp⟩:=q0i hl
 refine ⟨hx.1,?_⟩
 by_cases e:ix x=ix w
 ·rw [e]; unfold less; rw [Live.self hc]; simp only []; omega
 ·exact (Live.ne e).2 hx.2
section
variable {m0:Mem} {ro:Nat->Nat} {m:Mem} {mb:Nat} {d p out hp fr:Sl} {c:Int} {s:St} {fs:List Frame} {f:Frame} {r o h:Sl} {css:List (List Ce)}
open Classical in
noncomputable def apartK (g:List Cell) (w:Int) (keep:Bool):List Cell :=
 if (q01 g w).count=1/\keep=true then g.set (ix w) ⟨-1,0,q0p (q01 g w).fields.length⟩ else apart g w
theorem qhd (S:ST m0 ro m mb q0k (IB d p c s out hp fr) out hp fr s.out s.heap fs f r o h css) {w:Int} (hlv:live s.heap w) (keep:Bool) {e:Nat->Int} (hI:HInv s.heap e) (hhl:s.heap.length<=1000000000) :
  q08 Tryz.prog q2x [vp mb 0,vi w,vb keep] m fun v m'=>∃ b:Bool,v=vb b/\(b=true ↔ (q01 s.heap w).count=1/\keep=true)/\∃ ro' hp',ST m0 ro' m' mb q0k (IB d p c s out hp' fr) out hp' fr s.out (apartK s.heap w keep) fs f r o h css/\To ro m ro' m':=by
 apply qdq (mb,0)
 simp -zeta only [q0a,q09,rI,rS,rB,cI,cB,cS,dI,dB,dS,gk,rg]
 obtain ⟨hcc,hpos⟩:=q0i hlv
 have hlt:=q04 hcc
 have hlen:=S.lay.heap.len
 have hl1:=hlv.1
 have hix:ix w=(w - 1000).toNat:=rfl
 have e4:w64 (w - 1000)=w - 1000:=q07 (by omega) (by omega)
 have hCO:=hI.cell _ (q05 hcc)
 have hmx:=hCO.hi
 have hfl:=hCO.fl
 have g8:gcell m mb 8=some (Sl.v hp):=S.lay.box.get 8
 obtain ⟨f0,g0,g1,g2,gf,gr⟩:=S.lay.heap.get hcc
 have hfll:=gf.len
 rw [e4,← hix]
 refine ⟨hp,g8,by omega,by omega,fun m'=>m'=m/\¬ ((q01 s.heap w).count=1/\keep=true),⟨_,g0,fun h1=>⟨fun hk=>?_,fun hk=>⟨rfl,fun hh=>by rw [hk] at hh; simp at hh⟩⟩,fun h1=>⟨rfl,fun hh=>by simp at h1; exact h1 hh.1⟩⟩,?_⟩
 ·simp at h1
  have e5:Int.toNat (f0.len:Int)=(q01 s.heap w).fields.length:=by omega
  refine ⟨f0,g2,by omega,Int.le_refl _,by omega,by omega,?_⟩
  rw [e5]
  intro m1
  have hx1:Ext m m1:=(Ext.refl m).pushed _
  have oz:Own m m1 ty_int 1 (.mk m.size 0 (q01 s.heap w).fields.length (q01 s.heap w).fields.length) ((q0p (q01 s.heap w).fields.length).map Ce.i):=by
   have e6:m1=m.push (.cells (vals ((q0p (q01 s.heap w).fields.length).map Ce.i)) ty_int):=by rw [← q72]
   rw [e6]; exact qqf _
  obtain ⟨S1,t1⟩:=S.ext hx1
  clear_value m1
  refine ⟨S1.lay.heap.wr (o:=0) hlt (by decide),?_⟩
  intro m2
  obtain ⟨hh2,c2⟩:=S1.lay.heap.setCell S1.lay.new hlt (-1) 0 (q03.ofOwn oz (by rw [q31]; omega)) (FOk.of S.lay.heap (fun h0=>hx1.same _ (S.lay.heap.blk h0).2) (fun _=>oz) (fun _=>S.lay.new _ (Nat.le_refl _)) S.lay.base.size)
  obtain ⟨S2,t2⟩:=S1.setHeap (c2.mono fun k hk=>Or.inl hk) hh2
  refine ⟨true,rfl,by simp [h1,hk],ro,hp,?_,t1.trans t2⟩
  rw [apartK,if_pos ⟨h1,hk⟩]; exact S2
 ·rintro m1 ⟨rfl,hno⟩
  have hfalse:(false=true ↔ (q01 s.heap w).count=1/\keep=true):=⟨fun h=>by simp at h,fun h=>absurd h hno⟩
  rw [show apartK s.heap w keep=apart s.heap w by rw [apartK,if_neg hno]]
  refine ⟨_,g0,fun h1=>?_,fun h1=>?_⟩
  ·simp at h1
   refine ⟨S.lay.heap.wr (o:=0) hlt (by decide),?_⟩
   intro m2
   obtain ⟨hh2,c2⟩:=S.lay.heap.setCell S.lay.new hlt 0 0 (f:=.nil) (l:=[]) ⟨rfl,by simp,by simp,by simp⟩ (fun hne=>absurd rfl hne)
   obtain ⟨S2,t2⟩:=S.setHeap (c2.mono fun k hk=>Or.inl hk) hh2
   refine ⟨hp,S2.lay.box.get 8,?_⟩
   intro m3 m4
   obtain ⟨S4,t4,kb⟩:=S2.heapBox
   refine (qca S4.lay.heap S4.lay.new kb (q21 _ _ _) (by simp; omega)).mono ?_
   rintro _ m5 ⟨hh5,kb5,c5⟩
   obtain ⟨S5,t5⟩:=S4.setHeap c5 hh5
   refine ⟨_,kb5.get 0,S5.lay.wrBox (i:=8) (by simp),?_⟩
   intro m6
   obtain ⟨S6,t6⟩:=S5.setBox 8 [.s (hp.cut 0 (trimN (s.heap.set (ix w) ⟨0,0,[]⟩) (s.heap.set (ix w) ⟨0,0,[]⟩).length) 3)]
   refine ⟨false,rfl,hfalse,_,hp.cut 0 (trimN (s.heap.set (ix w) ⟨0,0,[]⟩) (s.heap.set (ix w) ⟨0,0,[]⟩).length) 3,?_,((t2.trans t4).trans t5).trans t6⟩
   rw [apart,if_pos h1]; exact S6
  ·simp only [beq_eq_false_iff_ne] at h1
   have e5:w64 ((q01 s.heap w).count - 1)=(q01 s.heap w).count - 1:=q07 (by omega) (by omega)
   refine ⟨_,g0,S.lay.heap.wr (o:=0) hlt (by decide),?_⟩
   rw [e5]
   intro m2
   obtain ⟨hh2,c2⟩:=S.lay.heap.setCount S.lay.new hcc ((q01 s.heap w).count - 1)
   obtain ⟨f1,k0,k1,k2,kf,kr⟩:=hh2.get (q1d hcc)
   simp only [] at kf kr
   have hkl:=kf.len
   refine ⟨f1,k2,?_⟩
   have hbx:∀ {m'},Chg (fun k=>k=3) ro m1 ro m'->gcell m' mb 8=some (Sl.v hp):=fun hc=>by rw [q16 (hc.keep _ S.lay.box.lt (by rw [S.lay.rob]; decide))]; exact g8
   have hlive0:∀ v ∈ (q01 s.heap w).fields,1000<=v->live (less s.heap w) v:=fun v hv hp=>qta hlv h1 (hI.field (q05 hcc) hv hp)
   have hcb:∀ q ∈ less s.heap w,-10<=q.count/\q.count<=999999:=fun q hq=>by
    rcases q5z hq with rfl | ⟨b,_,hb⟩
    ·simp only []; omega
    ·have:=hI.cell q (q05 hb); have h5:=this.lo; have h6:=this.hi; omega
   have hc12:Chg (fun k=>k=3) ro m1 ro m2:=c2
   refine forI (n:=(q01 s.heap w).fields.length) (by omega) (fun k m'=>q0u m0.size ro m' hp (refer (less s.heap w) (ptrs ((q01 s.heap w).fields.take k)))/\Chg (fun k=>k=3) ro m1 ro m'/\q03 m' f1 (q01 s.heap w).fields) ⟨hh2,c2,kf⟩ ?_
   rintro k m3 I μ hk ⟨hh3,c3,kf3⟩ next
   refine ⟨fun h5=>?_,fun h5=>?_⟩
   ·simp only [decide_eq_true_eq] at h5
    obtain ⟨v,hv⟩:=q00 (l:=(q01 s.heap w).fields) (k:=k) (by omega)
    have hvb:v<=9223372036854775807:=by
     rcases Classical.em (1000<=v) with h6 | h6
     ·have:=q04 (q0i (hI.field (q05 hcc) (q05 hv) h6)).1; unfold ix at this; omega
     ·omega
    have hrlen:(refer (less s.heap w) (ptrs ((q01 s.heap w).fields.take k))).length=s.heap.length:=by rw [qb8]; simp [less]
    have hlive3:1000<=v->live (refer (less s.heap w) (ptrs ((q01 s.heap w).fields.take k))) v:=fun hp=>qnq _ _ (fun y hy=>hlive0 y (List.mem_of_mem_take (q48.1 hy).1) (q48.1 hy).2) v (hlive0 v (q05 hv) hp)
    refine ⟨by omega,by omega,v,by simpa using kf3.at' hv,hp,hbx c3,(q2f (hh3.cells (by rw [hrlen]; omega)) hvb).mono ?_⟩
    rintro _ m4 ⟨aa,b,rfl,hb,hba,h34⟩
    have c34:Chg (fun k=>k=3) ro m1 ro m4:=c3.trans (Chg.ofExt _ h34 c3.new)
    have hh4:=hh3.chg (Chg.ofExt (fun _=>False) h34 c3.new) id id
    have kf4:=kf3.ext h34
    refine ⟨aa,b,rfl,fun hbt=>?_,fun hbf=>next (by omega) _ ⟨?_,c34,kf4⟩⟩
    ·have hl4:=hb.1 hbt
     have haa:=hba hbt
     subst haa
     obtain ⟨hc4,hp4⟩:=q0i hl4
     have hlt4:=q04 hc4
     have hlen4:=hh4.len
     obtain ⟨f4,j0,_⟩:=hh4.get hc4
     have hcb4:=qeh _ _ 999999 hcb _ (q05 hc4)
     have hpl:=q51 ((q01 s.heap w).fields.take k)
     have htl:((q01 s.heap w).fields.take k).length<=3:=by simp; omega
     have e6:w64 ((q01 (refer (less s.heap w) (ptrs ((q01 s.heap w).fields.take k))) v).count+1)=(q01 (refer (less s.heap w) (ptrs ((q01 s.heap w).fields.take k))) v).count+1:=q07 (by omega) (by omega)
     have eix:Int.toNat ((ix v:Nat):Int)=ix v:=by omega
     refine ⟨hp,hbx c34,?_⟩
     rw [eix]
     refine ⟨by omega,by omega,_,j0,by omega,by omega,hh4.wr (o:=0) hlt4 (by decide),?_⟩
     rw [e6]
     obtain ⟨hh5,c5⟩:=hh4.setCount c34.new hc4 ((q01 (refer (less s.heap w) (ptrs ((q01 s.heap w).fields.take k))) v).count+1)
     refine next (by omega) _ ⟨?_,c34.trans c5,q2t kf4 fun hne=>c5.keep _ (q2c kf4 hne) (by rw [(kr hne).1]; decide)⟩
     have:ptrs [v]=[v]:=by simp [ptrs,hl4.1]
     rw [q06 hv,q62,this,qg9]
     exact hh5
    ·have hv1:¬ 1000<=v:=fun hp=>fb hb hbf (hlive3 hp)
     have:ptrs [v]=[]:=by simp [ptrs]; omega
     rw [q06 hv,q62,this,List.append_nil]; exact hh4
   ·simp only [decide_eq_false_iff_not] at h5
    rw [q0b (by omega)] at hh3
    obtain ⟨S3,t3⟩:=S.setHeap (c3.mono fun k hk=>Or.inl hk) hh3
    refine ⟨false,rfl,hfalse,ro,hp,?_,t3⟩
    rw [apart,if_neg h1]; exact S3
theorem qos (S:ST m0 ro m mb q0k (IB d p c s out hp fr) out hp fr s.out s.heap fs f r o h css) {x:Instr} {a j:Sl} (ha:q03 m0 a x.args) (hargs:∀ y ∈ x.args,0<=y/\y < f.regs.length) (hal:x.args.length<=4) (hop:x.op=0 \/ x.op=1 \/ x.op=2 \/ x.op=3 \/ x.op=4 \/ x.op=5) (h5:x.op=5->x.args.length=1) (h2:x.op ≠ 0->x.op ≠ 5->x.args.length=2) (hints:x.op ≠ 0->∀ y ∈ x.args,isInt (at' f.regs y))
  (hlen:f.regs.length=f.own.length/\f.held.length=f.own.length/\f.own.length<=2000) (hd:0<=x.dst/\x.dst < f.own.length) (hout:s.out.length<=1000000000) :
  q08 Tryz.prog q59 [vp mb 0,vp fr.blk (fr.off+fs.length*6),xv x a j] m fun _ m'=>IFin m0 ro m mb d p c (if x.op=0 then { s with frames:=fs ++ [f.put x.dst x.num 0] } else if x.op=5 then { s with out:=s.out ++ [at' f.regs (at' x.args 0)],frames:=fs ++ [f.put x.dst (at' f.regs (at' x.args 0)) 0] } else { s with frames:=fs ++ [f.put x.dst (prim x.op (at' f.regs (at' x.args 0)) (at' f.regs (at' x.args 1))) 0] }) m':=by
 apply qc2 (mb,0) (fr.blk,fr.off+fs.length*6)
 simp -zeta only [q0a,q09,rI,rS,rB,cI,cB,cS,dI,dB,dS,gk,rg]
 intro m1
 have hx1:Ext m m1:=(Ext.refl m).pushed _
 have s1:m1.size=m.size+1:=by simp [m1]
 obtain ⟨S1,t1⟩:=S.ext hx1
 have B1:Bx0 ro m1 [m.size]:=fun b hb=>by simp at hb; subst hb; exact ⟨by omega,S.lay.new _ (Nat.le_refl _)⟩
 clear_value m1
 have F1:=S1.fp ⟨by omega,by omega,by omega⟩
 refine (qbq F1.g3 F1.regs (ha.ext S1.lay.base) hargs (by omega)).mono ?_
 rintro _ m2 ⟨ws,rfl,ow,h12⟩
 obtain ⟨S2,t2⟩:=S1.ext h12
 have B2:=B1.to t2
 have hwl:(words f x.args).length=x.args.length:=by simp [words]
 have iw:q03 m2 ws (words f x.args):=q03.ofOwn ow (by omega)
 have hwsl:=iw.len
 have t02:=t1.trans t2
 have wat:∀ {k:Nat},k < x.args.length->(words f x.args)[k]?=some (at' f.regs (at' x.args k)):=fun {k} hk=>by
  obtain ⟨y,hy⟩:=q00 hk
  simp [words,hy,at_of hy]
 have setR:∀ {M:Mem} (hx:Ext m2 M) (v:Int),q08 Tryz.prog q1m [vp fr.blk (fr.off+fs.length*6),vi x.dst,vi v,vi 0] M fun _ m'=>Sam [m.size] M m'/\IFin m0 ro m mb d p c { s with frames:=fs ++ [f.put x.dst v 0] } m':=fun hx v=>by
  obtain ⟨SM,tM⟩:=S2.ext hx
  refine (q7s SM hd.1 (by omega) hd.2 v 0).mono ?_
  rintro _ m' ⟨S',t'⟩
  exact ⟨t'.samB (B2.to tM),ro,out,hp,fr,S'.lay,(t02.trans tM).trans t'⟩
 refine ⟨t2.samB B1,ws,rfl,fun e=>?_,fun e0=>⟨fun e=>?_,fun e5=>?_⟩⟩
 ·simp at e; rw [if_pos e]; exact setR (Ext.refl _) _
 ·simp at e0 e
  rw [if_neg e0,if_pos e]
  have h1:=h5 e
  have hlo:(Sl.len out)=s.out.length:=by have:=S2.lay.out.len; simp at this; omega
  refine ⟨by omega,by omega,_,iw.at' (k:=0) (wat (by omega)),out,S2.lay.box.get 7,?_⟩
  intro m3
  have h23:Ext m2 m3:=(Ext.refl m2).pushed _
  have hrow:rowIs m3 m2.size 0 [.i (at' f.regs (at' x.args ((0:Nat):Int)))]:=(Blk.push m2 _ _).row
  obtain ⟨S3,t3⟩:=S2.ext h23
  have B3:=B2.to t3
  clear_value m3
  refine Arr.append (zs:=[.i 0]) (x:=.mk m2.size 0 1 1) (new:=[.i (at' f.regs (at' x.args 0))]) S3.lay.out S3.lay.new rfl hrow (by simp only [Sl.len_mk]; omega) fun ro4 q m4 q1 q2=>?_
  have q1':Arr ro4 m4 ty_int 1 2 q ((s.out ++ [at' f.regs (at' x.args 0)]).map Ce.i):=by simpa using q1
  obtain ⟨S4,t4⟩:=S3.setOut q2 q1'
  have B4:=B3.to t4
  refine ⟨t4.samB B3,S4.lay.wrBox (i:=7) (by simp),?_⟩
  intro m5
  obtain ⟨S5,t5⟩:=S4.setBox 7 [.s q]
  have B5:=B4.to t5
  refine ⟨t5.samB B4,(q7s S5 hd.1 (by omega) hd.2 (at' f.regs (at' x.args 0)) 0).mono ?_⟩
  rintro _ m6 ⟨S6,t6⟩
  exact ⟨t6.samB B5,ro4,q,hp,fr,S6.lay,(((t02.trans t3).trans t4).trans t5).trans t6⟩
 ·simp at e0 e5
  rw [if_neg e0,if_neg e5]
  have h1:=h2 e0 e5
  refine ⟨by omega,by omega,_,iw.at' (k:=0) (wat (by omega)),by omega,by omega,_,iw.at' (k:=1) (wat (by omega)),?_⟩
  refine (qri (hints e0 _ (q18 (by omega) (by omega))) (hints e0 _ (q18 (by omega) (by omega))) m2).mono ?_
  rintro _ m3 ⟨rfl,h23⟩
  exact ⟨h23.sam (fun b hb=>(B2 b hb).1),_,rfl,setR h23 _⟩
end
end
end Go.Proofs.YtpggcodlaajceaaGreat
