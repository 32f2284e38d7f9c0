/- Part of a proof, joined by a program: Mi7 Mi8 Mi9 La1 La2. -/
import Derived.Test.YtpggcodlaajceaaGreatU09
set_option linter.unusedVariables false
set_option linter.unusedSimpArgs false
namespace Go.Proofs.YtpggcodlaajceaaGreat
open Go.Vc
section
section
variable {m0:Mem} {ro:Nat->Nat} {m:Mem} {mb:Nat} {d p out hp fr:Sl} {c:Int} {s:St} {fs:List Frame} {f:Frame} {r o h:Sl} {css:List (List Ce)}
theorem qr1 (S:ST m0 ro m mb q0k (IB d p c s out hp fr) out hp fr s.out s.heap fs f r o h css) {x:Instr} {a j:Sl} (ha:q03 m0 a x.args) (hargs:∀ y ∈ x.args,0<=y/\y < f.regs.length) (hal:1<=x.args.length/\x.args.length<=4)
  (hlen:f.regs.length=f.own.length/\f.held.length=f.own.length/\f.own.length<=2000) (hhl:s.heap.length<=1000000000) (hown:∀ q ∈ f.own,0<=q/\q<=999999)
  (hlv:live s.heap (at' f.regs (at' x.args 0))) {e:Nat->Int} (hI:HInv s.heap e) {pc0:Int} (hpc:f.pc=pc0+1) :
  q08 Tryz.prog q68 [vp mb 0,vp fr.blk (fr.off+fs.length*6),xv x a j] m fun _ m'=>IFin m0 ro m mb d p c (openSt s fs { f with pc:=pc0 } x) m':=by
 apply qe1 (mb,0) (fr.blk,fr.off+fs.length*6)
 simp -zeta only [q0a,q09,rI,rS,rB,cI,cB,cS,dI,dB,dS,gk,rg]
 intro m1
 have hx1:Ext m m1:=(Ext.refl m).pushed _
 have s1:m1.size=m.size+1:=by simp [m1]
 obtain ⟨S1,t1⟩:=S.ext hx1
 have B1:Bx0 ro m1 [m.size]:=fun b hb=>by simp at hb; subst hb; exact ⟨by omega,S.lay.new _ (Nat.le_refl _)⟩
 clear_value m1
 have hrl:r.len=f.regs.length:=by have:=S.top.regs.len; simp at this; omega
 have hol:o.len=f.own.length:=by have:=S.top.own.len; simp at this; omega
 have hhlen:h.len=f.held.length:=by have:=S.top.held.len; simp at this; omega
 have hal':=ha.len
 have hac:=ha.cap
 have h0:0<=at' x.args 0/\at' x.args 0 < f.regs.length:=hargs _ (q18 (by omega) (by omega))
 have ga:∀ {m'},Ext m0 m'->gcell m' a.blk (a.off+Int.toNat (0:Int)*1)=some (vi (at' x.args 0)):=fun hx=>(ha.ext hx).atI (by omega) (by omega)
 obtain ⟨_,_,_,g3,_,_⟩:=S1.top.row
 generalize hw:at' f.regs (at' x.args 0)=w at *
 refine ⟨r,g3,by omega,by omega,_,ga S1.lay.base,h0.1,by omega,w,by rw [← hw]; exact (S1.regSl (by omega)).atI h0.1 h0.2,(qhd S1 hlv (x.op == 17) hI hhl).mono ?_⟩
 rintro _ m2 ⟨b,rfl,hb,ro2,hp2,S2,t2⟩
 have B2:=B1.to t2
 have h17:(x.op == 17)=true ↔ x.op=17:=by simp
 rw [h17] at hb
 have e1:Int.toNat (1:Int)=1:=rfl
 have e2:Int.toNat (a.len:Int)=a.len:=by omega
 have hcut:∀ {m'},Ext m0 m'->q03 m' (Sl.cut a 1 a.len 1) (x.args.drop 1):=fun hx=>cut1 (ha.ext hx) hal.1
 have hcl:(Sl.cut a 1 a.len 1).len=x.args.length - 1:=by have:=(hcut (Ext.refl m0)).len; simp at this; omega
 have hdl:(x.args.drop 1).length=x.args.length - 1:=by simp
 have hargs':∀ y ∈ x.args.drop 1,0<=y/\y < f.regs.length:=fun y hy=>hargs y (List.mem_of_mem_drop hy)
 rw [e1,e2]
 refine ⟨t2.samB B1,b,rfl,fun hbt=>?_,fun hbf=>?_⟩
 ·obtain ⟨_,_,_,_,_,g5⟩:=S2.top.row
  have hh:=hb.1 hbt
  refine ⟨h,g5,by omega,by omega,_,ga S2.lay.base,h0.1,by omega,S2.top.held.wrI h0.1 (by omega),?_⟩
  intro m3
  obtain ⟨S3,t3⟩:=S2.setHeld h0.1 (by omega) w
  have B3:=B2.to t3
  refine ⟨t3.samB B2,by omega,by omega,by omega,?_⟩
  refine forI (n:=(x.args.drop 1).length) (by omega) (fun k m'=>ST m0 ro2 m' mb q0k (IB d p c s out hp2 fr) out hp2 fr s.out (apartK s.heap w (x.op == 17)) fs { f with held:=setI f.held (at' x.args 0) w,own:=q0x f.own ((x.args.drop 1).take k) } r o h css/\To ro m ro2 m'/\Bx0 ro2 m' [m.size]) ⟨by rw [List.take_zero]; exact S3,(t1.trans t2).trans t3,B3⟩ ?_
  rintro k m4 I μ hk ⟨S4,t4,B4⟩ next
  have hkb:∀ q ∈ q0x f.own ((x.args.drop 1).take k),0<=q/\q<=1000010:=fun q hq=>by
   have:=q7z _ f.own 999999 (by omega) hown q hq
   have h3:((x.args.drop 1).take k).length<=4:=by simp; omega
   omega
  refine ⟨fun h1=>?_,fun h1=>?_⟩
  ·simp only [decide_eq_true_eq] at h1
   obtain ⟨y,hy⟩:=q00 (l:=x.args.drop 1) (k:=k) (by omega)
   have hyr:=hargs' y (q05 hy)
   have hyo:y < (q0x f.own ((x.args.drop 1).take k)).length:=by rw [q4i]; omega
   have hbb:=qgn (i:=y) hkb (by omega)
   have e3:w64 (at' (q0x f.own ((x.args.drop 1).take k)) y+1)=at' (q0x f.own ((x.args.drop 1).take k)) y+1:=q07 (by omega) (by omega)
   obtain ⟨_,_,_,_,g4,_⟩:=S4.top.row
   refine ⟨by omega,by omega,y,by simpa using (hcut S4.lay.base).at' hy,o,g4,hyr.1,by omega,_,(S4.ownSl (by simp only [q4i]; omega)).atI hyr.1 hyo,hyr.1,by omega,S4.top.own.wrI hyr.1 hyo,?_⟩
   rw [e3]
   intro m5
   obtain ⟨S5,t5⟩:=S4.setOwn hyr.1 hyo (at' (q0x f.own ((x.args.drop 1).take k)) y+1)
   refine ⟨t5.samB B4,next (by omega) _ ⟨?_,t4.trans t5,B4.to t5⟩⟩
   rw [q06 hy,q9q]; exact S5
  ·simp only [decide_eq_false_iff_not] at h1
   rw [q0b (by omega)] at S4
   refine ⟨ro2,out,hp2,fr,?_,t4⟩
   have:openSt s fs { f with pc:=pc0 } x={ s with heap:=apartK s.heap w (x.op == 17),frames:=fs ++ [{ f with held:=setI f.held (at' x.args 0) w,own:=q0x f.own (x.args.drop 1) }] }:=by
    unfold openSt; simp only []; rw [hw,if_pos hh,apartK,if_pos (by simpa using hh),hpc]
   rw [this]; exact S4.lay
 ·have hno:¬ ((q01 s.heap w).count=1/\x.op=17):=fun hh=>by have:=hb.2 hh; rw [hbf] at this; simp at this
  refine ⟨by omega,by omega,by omega,?_⟩
  refine forI (n:=(x.args.drop 1).length) (by omega) (fun k m'=>ST m0 ro2 m' mb q0k (IB d p c s out hp2 fr) out hp2 fr s.out (apartK s.heap w (x.op == 17)) fs { f with own:=q0x f.own ((x.args.drop 1).take k) } r o h css/\To ro m ro2 m'/\Bx0 ro2 m' [m.size]) ⟨by simpa [q0x] using S2,t1.trans t2,B2⟩ ?_
  rintro k m4 I μ hk ⟨S4,t4,B4⟩ next
  have hkb:∀ q ∈ q0x f.own ((x.args.drop 1).take k),0<=q/\q<=1000010:=fun q hq=>by
   have:=q7z _ f.own 999999 (by omega) hown q hq
   have h3:((x.args.drop 1).take k).length<=4:=by simp; omega
   omega
  refine ⟨fun h1=>?_,fun h1=>?_⟩
  ·simp only [decide_eq_true_eq] at h1
   obtain ⟨y,hy⟩:=q00 (l:=x.args.drop 1) (k:=k) (by omega)
   have hyr:=hargs' y (q05 hy)
   have hyo:y < (q0x f.own ((x.args.drop 1).take k)).length:=by rw [q4i]; omega
   have hbb:=qgn (i:=y) hkb (by omega)
   have e3:w64 (at' (q0x f.own ((x.args.drop 1).take k)) y+1)=at' (q0x f.own ((x.args.drop 1).take k)) y+1:=q07 (by omega) (by omega)
   obtain ⟨_,_,_,_,g4,_⟩:=S4.top.row
   refine ⟨by omega,by omega,y,by simpa using (hcut S4.lay.base).at' hy,o,g4,hyr.1,by omega,_,(S4.ownSl (by simp only [q4i]; omega)).atI hyr.1 hyo,hyr.1,by omega,S4.top.own.wrI hyr.1 hyo,?_⟩
   rw [e3]
   intro m5
   obtain ⟨S5,t5⟩:=S4.setOwn hyr.1 hyo (at' (q0x f.own ((x.args.drop 1).take k)) y+1)
   refine ⟨t5.samB B4,next (by omega) _ ⟨?_,t4.trans t5,B4.to t5⟩⟩
   rw [q06 hy,q9q]; exact S5
  ·simp only [decide_eq_false_iff_not] at h1
   rw [q0b (by omega)] at S4
   refine ⟨ro2,out,hp2,fr,?_,t4⟩
   have:openSt s fs { f with pc:=pc0 } x={ s with heap:=apartK s.heap w (x.op == 17),frames:=fs ++ [{ f with own:=q0x f.own (x.args.drop 1) }] }:=by
    unfold openSt; simp only []; rw [hw,if_neg hno,apartK,if_neg (by simpa using hno),hpc]
   rw [this]; exact S4.lay
theorem FrmL.none {ro:Nat->Nat} {m:Mem}:FrmL ro m .nil []:=⟨[],Arr.ofOwn (Own.nil m m _ _) (fun hh=>absurd rfl hh),rfl,by simp,by simp⟩
theorem qmo (S:ST m0 ro m mb q0k (IB d p c s out hp fr) out hp fr s.out s.heap fs f r o h css) (hfs:fs.length<=100000) (w:Int) (hdst:∀ g,fs.getLast?=some g->0<=f.dst/\f.dst < g.regs.length/\f.dst < g.own.length) :
  q08 Tryz.prog q4s [vp mb 0,vi w] m fun _ m'=>IFin m0 ro m mb d p c (match fs.getLast? with | none=>{ s with status:=0,value:=w,frames:=[] } | some g=>{ s with frames:=fs.dropLast ++ [g.put f.dst w (q1g w)] }) m':=by
 apply qb5 (mb,0)
 simp -zeta only [q0a,q09,rI,rS,rB,cI,cB,cS,dI,dB,dS,gk,rg]
 have hfl:=S.top.frLen
 have hcap:=S.top.arr.le
 have e:w64 ((fr.len:Int) - 1)=(fs.length:Int):=by rw [q07 (by omega) (by omega)]; omega
 have e2:Int.toNat (fs.length:Int)=fs.length:=by omega
 have g9:gcell m mb 9=some (Sl.v fr):=S.lay.box.get 9
 obtain ⟨_,_,g2,_,_,_⟩:=S.top.row
 refine ⟨fr,g9,fr,g9,?_⟩
 rw [e,e2]
 refine ⟨by omega,by omega,f.dst,g2,fr,g9,by omega,by omega,by omega,S.lay.wrBox (i:=9) (by simp),?_⟩
 intro m2
 obtain ⟨L2,t2⟩:=S.lay.setBox 9 [.s (fr.cut 0 fs.length 6)]
 obtain ⟨L2',_⟩:=L2.setFrames (Chg.refl _ L2.new) (L2.frames.pop)
 have hcl:(fr.cut 0 fs.length 6).len=fs.length:=by
  cases fr with
  | nil=>simp at hfl
  | emp b o' sp=>simp at hfl
  | mk b o' l c=>simp [Sl.cut]
 have e3:Int.toNat (0:Int)=0:=rfl
 refine ⟨fun h1=>?_,fun h1=>?_⟩
 ·have hfs0:fs=[]:=by simpa using h1
  subst hfs0
  refine ⟨L2'.wrBox (i:=3) (by simp [q3y]),?_⟩
  intro m3
  obtain ⟨L3,t3⟩:=L2'.setBox 3 [.i 0]
  refine ⟨L3.wrBox (i:=4) (by simp [q3y]),?_⟩
  intro m4
  obtain ⟨L4,t4⟩:=L3.setBox 4 [.i w]
  refine ⟨L4.wrBox (i:=9) (by simp [q3y]),?_⟩
  intro m5
  obtain ⟨L5,t5⟩:=L4.setBox 9 [.s .nil]
  obtain ⟨L5',_⟩:=L5.setFrames (Chg.refl _ L5.new) (FrmL.none (ro:=ro) (m:=m5))
  exact ⟨ro,out,hp,.nil,L5',((t2.trans t3).trans t4).trans t5⟩
 ·have hne:fs ≠ []:=by simpa using h1
  have hn0:fs.length ≠ 0:=fun e=>hne (List.length_eq_zero_iff.1 e)
  obtain ⟨g,hg⟩:∃ g,fs.getLast?=some g:=⟨_,List.getLast?_eq_some_getLast hne⟩
  obtain ⟨hd0,hd1,hd2⟩:=hdst g hg
  rw [hg]
  simp only []
  have hfs':fs=fs.dropLast ++ [g]:=by
   rw [List.getLast?_eq_some_getLast hne] at hg
   simp at hg
   rw [← hg]; exact (List.dropLast_concat_getLast hne).symm
  have L2'':Lay m0 ro m2 mb q0k (IB d p c s out hp (fr.cut 0 fs.length 6)) out hp (fr.cut 0 fs.length 6) s.out s.heap (fs.dropLast ++ [g]) :=
   ⟨L2'.base,L2'.base0,L2'.new,L2'.box,L2'.rob,L2'.out,L2'.heap,by rw [← hfs']; exact L2'.frames⟩
  obtain ⟨r',o',h',css',T⟩:=L2''.frames.top
  have hdl:fs.dropLast.length=fs.length - 1:=by simp
  have e5:w64 ((fs.length:Int) - 1)=((fs.length - 1:Nat):Int):=by rw [q07 (by omega) (by omega)]; omega
  have e6:Int.toNat ((fs.length - 1:Nat):Int)=fs.dropLast.length:=by omega
  refine ⟨fr.cut 0 fs.length 6,L2''.box.get 9,?_⟩
  rw [e5,e6]
  refine ⟨by omega,by omega,(q5r w m2).mono ?_⟩
  rintro _ m3 ⟨rfl,h23⟩
  obtain ⟨S3,t3⟩:=(ST.mk L2'' T).ext h23
  refine ⟨_,rfl,h23.keepG (L2''.box.get 9),(q7s S3 hd0 hd1 hd2 w (q1g w)).mono ?_⟩
  rintro _ m4 ⟨S4,t4⟩
  exact ⟨ro,out,hp,_,S4.lay,(t2.trans t3).trans t4⟩
end
theorem push3 {m M:Mem} (hx:Ext m M) {nb:Nat} (h1:m.size<=nb) (h2:nb < M.size) (n:Nat) (cs:List Ce) {b1 b2 b3:Nat}
  (hb:(b1=M.size \/ b1=M.size+1 \/ b1=M.size+2)/\(b2=M.size \/ b2=M.size+1 \/ b2=M.size+2)/\(b3=M.size \/ b3=M.size+1 \/ b3=M.size+2)/\b1 ≠ b2/\b1 ≠ b3/\b2 ≠ b3) :
  New3 m (scells (((M.push (.cells (vals (zrow [.i (0:Int)] n)) 3)).push (.cells (vals (zrow [.i (0:Int)] n)) 3)).push (.cells (vals (zrow [.i (0:Int)] n)) 3)) nb 0 cs) b1 b2 b3 n (q0p n) (q0p n) (q0p n):=by
 rw [q72]
 generalize e2:M.push (.cells (vals ((q0p n).map Ce.i)) 3)=m2
 generalize e3:m2.push (.cells (vals ((q0p n).map Ce.i)) 3)=m3
 generalize e4:m3.push (.cells (vals ((q0p n).map Ce.i)) 3)=m4
 have s2:m2.size=M.size+1:=by simp [← e2]
 have s3:m3.size=M.size+2:=by simp [← e3,s2]
 have s4:m4.size=M.size+3:=by simp [← e4,s3]
 have x2:Ext M m2:=e2 ▸ Ext.push _ _
 have x3:Ext m2 m3:=e3 ▸ Ext.push _ _
 have x4:Ext m3 m4:=e4 ▸ Ext.push _ _
 have k1:Blk m4 M.size ty_int ((q0p n).map Ce.i):=((e2 ▸ Blk.push M _ _:Blk m2 M.size ty_int ((q0p n).map Ce.i)).ext x3).ext x4
 have k2:Blk m4 m2.size ty_int ((q0p n).map Ce.i):=(e3 ▸ Blk.push m2 _ _:Blk m3 m2.size ty_int ((q0p n).map Ce.i)).ext x4
 have k3:Blk m4 m3.size ty_int ((q0p n).map Ce.i):=e4 ▸ Blk.push m3 _ _
 have kk:∀ b,(b=M.size \/ b=M.size+1 \/ b=M.size+2)->Blk (scells m4 nb 0 cs) b ty_int ((q0p n).map Ce.i):=fun b hb=>by
  have:Blk m4 b ty_int ((q0p n).map Ce.i):=by
   rcases hb with rfl | rfl | rfl
   ·exact k1
   ·rw [← s2]; exact k2
   ·rw [← s3]; exact k3
  exact this.congr (q0n _ _ _ _ (by omega))
 exact ⟨(hx.trans ((x2.trans x3).trans x4)).scells h1 _ _,by have:=hx.size; rw [q02]; omega,kk _ hb.1,kk _ hb.2.1,kk _ hb.2.2.1,by simp [q31]⟩
theorem qml {m:Mem} {d p:Sl} {im:Image} (him:ImageR m d p im) {g:Int} (h0:0<=g) {q:Proc} (hq:im.procs[g.toNat]?=some q) (hreg:0<=q.regs/\q.regs<=2000) (dst:Int) :
  q08 Tryz.prog q9u [.agg #[Sl.v d,Sl.v p],vi g,vi dst] m fun v m'=>∃ b1 b2 b3,v=.agg #[vi g,vi 0,vi dst,Sl.v (.mk b1 0 q.regs.toNat q.regs.toNat),Sl.v (.mk b2 0 q.regs.toNat q.regs.toNat),Sl.v (.mk b3 0 q.regs.toNat q.regs.toNat)] /\
   New3 m m' b1 b2 b3 q.regs.toNat (q0p q.regs.toNat) (q0p q.regs.toNat) (q0p q.regs.toNat):=by
 apply qia
 simp -zeta only [q0a,q09,rI,rS,rB,cI,cB,cS,dI,dB,dS,gk,rg]
 intro m1 m2
 have hx2:Ext m m2:=((Ext.refl m).pushed _).pushed _
 have s1:m1.size=m.size+1:=by simp [m1]
 have s2:m2.size=m.size+2:=by simp [m2,s1]
 have hpl:=him.procs.len
 have hlt:=q04 hq
 clear_value m2
 obtain ⟨a',l',c',_,_,_,_,_,_,k3,_⟩:=(him.ext hx2).procs.at' hq
 refine ⟨h0,by omega,q.regs,k3,⟨hreg.1,Int.le_refl _,by omega,by omega,?_⟩,⟨hreg.1,Int.le_refl _,by omega,by omega,?_⟩,⟨hreg.1,Int.le_refl _,by omega,by omega,?_⟩⟩
 all_goals
  intro m3
  refine ⟨⟨hreg.1,Int.le_refl _,by omega,by omega,?_⟩,⟨hreg.1,Int.le_refl _,by omega,by omega,?_⟩⟩
  all_goals
   intro m4
   refine ⟨hreg.1,Int.le_refl _,by omega,by omega,?_⟩
   intro m5 m6
   have s3:m3.size=m2.size+1:=by simp [m3]
   have s4:m4.size=m2.size+2:=by simp [m4,s3]
   exact ⟨_,_,_,rfl,push3 hx2 (by omega) (by omega) q.regs.toNat _ (by omega)⟩
theorem New3.setReg {m m':Mem} {b1 b2 b3 n:Nat} {regs own held:List Int} (N:New3 m m' b1 b2 b3 n regs own held) {i:Nat} (hi:i < n) (v:Int):wrOk m' b1 i 1/\New3 m (scells m' b1 i [.i v]) b1 b2 b3 n (regs.set i v) own held:=by
 have hlo:=N.lo
 refine ⟨N.kr.wrOk (by simp [N.len.1]; omega),N.ext.scells hlo.1 _ _,by rw [q02]; exact hlo,?_,N.ko.congr (q0n _ _ _ _ (by omega)),N.kh.congr (q0n _ _ _ _ (by omega)),by simp [N.len]⟩
 have:=Blk.scells (m:=m') (o:=i) (r:=[.i v]) N.kr
 rw [qcw] at this; exact this
theorem New3.setOwn {m m':Mem} {b1 b2 b3 n:Nat} {regs own held:List Int} (N:New3 m m' b1 b2 b3 n regs own held) {i:Nat} (hi:i < n) (v:Int):wrOk m' b2 i 1/\New3 m (scells m' b2 i [.i v]) b1 b2 b3 n regs (own.set i v) held:=by
 have hlo:=N.lo
 refine ⟨N.ko.wrOk (by simp [N.len.2.1]; omega),N.ext.scells hlo.2.1 _ _,by rw [q02]; exact hlo,N.kr.congr (q0n _ _ _ _ (by omega)),?_,N.kh.congr (q0n _ _ _ _ (by omega)),by simp [N.len]⟩
 have:=Blk.scells (m:=m') (o:=i) (r:=[.i v]) N.ko
 rw [qcw] at this; exact this
theorem qeb (lent:List Int):∀ (l r:List Int) (k:Nat),q10 lent k (l ++ r)=q10 lent k l ++ q10 lent (k+l.length) r
 | [],r,k=>by simp [q10]
 | a :: l,r,k=>by
  have:=qeb lent l r (k+1)
  simp only [List.cons_append,q10,this,List.length_cons]
  have e:k+(l.length+1)=k+1+l.length:=by omega
  rw [e]
theorem qo7 {n k:Nat} (h:k < n):q0p (n - k)=0 :: q0p (n - (k+1)):=by
 have:n - k=(n - (k+1))+1:=by omega
 rw [this]; rfl
theorem fill1 {l:List Int} {n:Nat} (h:l.length < n) (v:Int):(l ++ q0p (n - l.length)).set l.length v=(l ++ [v]) ++ q0p (n - (l.length+1)):=by
 rw [qo7 h]; simp
theorem fill0 {l:List Int} {n:Nat} (h:l.length < n):l ++ q0p (n - l.length)=(l ++ [0]) ++ q0p (n - (l.length+1)):=by
 rw [qo7 h]; simp
section
variable {m0:Mem} {ro:Nat->Nat} {m:Mem} {mb:Nat} {d p out hp fr:Sl} {c:Int} {s:St} {fs:List Frame} {f:Frame} {r o h:Sl} {css:List (List Ce)}
theorem qk1 {im:Image} (S:ST m0 ro m mb q0k (IB d p c s out hp fr) out hp fr s.out s.heap fs f r o h css) (him:ImageR m0 d p im) {g:Int} (hg0:0<=g) {q:Proc} (hq:im.procs[g.toNat]?=some q) (hreg:0<=q.regs/\q.regs<=2000) {ws:Sl} {wl:List Int} (hw:q03 m ws wl) (hw0:wl ≠ []->ro ws.blk=0) (hwq:(wl.length:Int)<=q.regs) (x:Instr) (a j:Sl)
  (hfs:fs.length<=10000) (hcl:0<=s.calls/\s.calls<=100000) :
  q08 Tryz.prog q34 [vp mb 0,vi g,Sl.v ws,xv x a j] m fun _ m'=>IFin m0 ro m mb d p c { s with calls:=s.calls+1,frames:=if x.op=24 then fs ++ [q0r im g f.dst wl] else fs ++ [f,q0r im g x.dst wl] } m':=by
 apply qdy (mb,0)
 simp -zeta only [q0a,q09,rI,rS,rB,cI,cB,cS,dI,dB,dS,gk,rg]
 intro m1
 have hx1:Ext m m1:=(Ext.refl m).pushed _
 have s1:m1.size=m.size+1:=by simp [m1]
 obtain ⟨S1,t1⟩:=S.ext hx1
 have B1:Bx0 ro m1 [m.size]:=fun b hb=>by simp at hb; subst hb; exact ⟨by omega,S.lay.new _ (Nat.le_refl _)⟩
 clear_value m1
 have hfl:=S.top.frLen
 have hcap:=S.top.arr.le
 have e0:w64 (s.calls+1)=s.calls+1:=q07 (by omega) (by omega)
 have e:w64 ((fr.len:Int) - 1)=(fs.length:Int):=by rw [q07 (by omega) (by omega)]; omega
 have e2:Int.toNat (fs.length:Int)=fs.length:=by omega
 refine ⟨s.calls,S1.lay.box.get 5,S1.lay.wrBox (i:=5) (by simp),?_⟩
 rw [e0]
 intro m2
 obtain ⟨S2,t2⟩:=S1.setBox 5 [.i (s.calls+1)]
 replace S2:ST m0 ro m2 mb q0k (IB d p c { s with calls:=s.calls+1 } out hp fr) out hp fr s.out s.heap fs f r o h css:=S2
 replace t2:To ro m1 ro m2:=t2
 have B2:=B1.to t2
 have g9:gcell m2 mb 9=some (Sl.v fr):=S2.lay.box.get 9
 obtain ⟨_,_,g2,_,_,_⟩:=S2.top.row
 refine ⟨t2.samB B1,fr,g9,?_⟩
 rw [e,e2]
 clear_value m2
 have t02:=t1.trans t2
 refine ⟨fun dst m'=>∃ fsX frX,Lay m0 ro m' mb q0k (IB d p c { s with calls:=s.calls+1 } out hp frX) out hp frX s.out s.heap fsX/\To ro m ro m'/\Bx0 ro m' [m.size]/\fsX.length<=10001/\(if x.op=24 then fs ++ [q0r im g f.dst wl] else fs ++ [f,q0r im g x.dst wl])=fsX ++ [q0r im g dst wl],⟨fun h24=>?_,fun h24=>?_⟩,?_⟩
 ·simp at h24
  refine ⟨fr,g9,by omega,by omega,f.dst,g2,fr,g9,by omega,by omega,by omega,S2.lay.wrBox (i:=9) (by simp),?_⟩
  intro m3
  obtain ⟨L3,t3⟩:=S2.lay.setBox 9 [.s (fr.cut 0 fs.length 6)]
  obtain ⟨L3',_⟩:=L3.setFrames (Chg.refl _ L3.new) (L3.frames.pop)
  refine ⟨t3.samB B2,fs,fr.cut 0 fs.length 6,L3',t02.trans t3,B2.to t3,by omega,?_⟩
  rw [if_pos h24]
 ·simp at h24
  refine ⟨fs ++ [f],fr,S2.lay,t02,B2,by simp; omega,?_⟩
  rw [if_neg h24]; simp
 rintro dst m3 ⟨fsX,frX,L3,t3,B3,hX,hfin⟩
 rw [hfin]
 have hqe:q0y im g=q:=by simp [q0y,hq]
 have him3:=him.ext L3.base
 refine ⟨d,L3.box.get 0,p,L3.box.get 1,(qml him3 hg0 hq hreg dst).mono ?_⟩
 rintro _ m4 ⟨b1,b2,b3,rfl,N⟩
 have hlo:=N.lo
 have h34:=N.ext
 have hb0:∀ b ∈ [m.size],b < m3.size:=fun b hb=>(B3 b hb).1
 have hm3:m.size < m3.size:=hb0 _ (by simp)
 refine ⟨h34.sam hb0,_,_,_,_,_,_,rfl,?_⟩
 intro m5 m6
 have h46:Ext m4 m6:=((Ext.refl m4).pushed _).scells (Nat.le_refl _) _ _
 have s6:m6.size=m4.size+1:=by simp [m6,m5,q02]
 have N6:=N.ext' h46
 clear_value m6
 have hwl:=hw.len
 have iw:∀ {M},Ext m3 M->q03 M ws wl:=fun hx=>(q2t hw fun hne=>t3.keep _ (q2c hw hne) (by rw [hw0 hne]; decide)).ext hx
 obtain ⟨pa,pl,pc,_,hil,_,_,k1,_,_,_⟩:=him3.procs.at' hq
 have hlt:=q04 hq
 have hpl:=him3.procs.len
 have hin:∀ (k:Nat),(q.lent.any fun y=>y == (k:Int))=true ↔ (k:Int) ∈ q.lent:=fun k=>by simp
 simp -zeta only [Sl.blk_mk,Sl.off_mk,Sl.len_mk,Nat.zero_add]
 refine forI (n:=wl.length) (by omega) (fun k m'=>New3 m3 m' b1 b2 b3 q.regs.toNat (wl.take k ++ q0p (q.regs.toNat - k)) (q10 q.lent 0 (wl.take k) ++ q0p (q.regs.toNat - k)) (q0p q.regs.toNat)/\m4.size < m'.size) ⟨by simpa [q10] using N6,by omega⟩ ?_
 rintro k m7 I μ hk ⟨N7,s7⟩ next
 have sam2:∀ {ma mc:Mem},(∀ b,b=m4.size \/ b=m.size->mc[b]?=ma[b]?)->Sam [m4.size,m.size] ma mc:=fun hh b hb=>hh b (by simpa using hb)
 have tk:(wl.take k).length=k:=by simp; omega
 have ok':(q10 q.lent 0 (wl.take k)).length=k:=by rw [q4o,tk]
 refine ⟨fun h1=>?_,fun h1=>?_⟩
 ·simp only [decide_eq_true_eq] at h1
  obtain ⟨y,hy⟩:=q00 (l:=wl) (k:=k) (by omega)
  have ek:Int.toNat (k:Int)*1=k:=by omega
  have hkn:k < q.regs.toNat:=by omega
  obtain ⟨w8,N8⟩:=N7.setReg hkn y
  have er:(wl.take k ++ q0p (q.regs.toNat - k)).set k y=wl.take (k+1) ++ q0p (q.regs.toNat - (k+1)):=by
   have:=fill1 (l:=wl.take k) (n:=q.regs.toNat) (by omega) y
   rw [tk] at this; rw [this,q06 hy]
  rw [er] at N8
  have eo:q10 q.lent 0 (wl.take (k+1))=q10 q.lent 0 (wl.take k) ++ [if q.lent.any (fun y=>y == (k:Int)) then 0 else q1g y]:=by
   rw [q06 hy,qeb,tk]; simp [q10]
  refine ⟨by omega,by omega,y,by simpa using (iw N7.ext).at' hy,by omega,by omega,?_⟩
  rw [ek]
  refine ⟨w8,?_⟩
  intro m8
  have s8:m8.size=m7.size:=q02 _ _ _ _
  refine ⟨sam2 fun b hb=>q0n _ _ _ _ (by omega),?_⟩
  replace N8:New3 m3 m8 b1 b2 b3 q.regs.toNat (wl.take (k+1) ++ q0p (q.regs.toNat - (k+1))) (q10 q.lent 0 (wl.take k) ++ q0p (q.regs.toNat - k)) (q0p q.regs.toNat):=N8
  clear_value m8
  refine ⟨p,N8.ext.gcell (L3.box.get 1),hg0,by omega,pl,N8.ext.gcell k1,(q57 (hil.ext N8.ext) _).mono ?_⟩
  rintro _ m9 ⟨b,rfl,hb,h89⟩
  have N9:=N8.ext' h89
  have s9:=h89.size
  refine ⟨h89.sam (by simp; omega),b,rfl,fun hbt=>?_,fun hbf=>?_⟩
  ·have hnl:¬ ((k:Int) ∈ q.lent):=nb hb hbt
   refine (q5r y m9).mono ?_
   rintro _ m10 ⟨rfl,h910⟩
   have N10:=N9.ext' h910
   have s10:=h910.size
   obtain ⟨w11,N11⟩:=N10.setOwn hkn (q1g y)
   have eo2:(q10 q.lent 0 (wl.take k) ++ q0p (q.regs.toNat - k)).set k (q1g y)=q10 q.lent 0 (wl.take (k+1)) ++ q0p (q.regs.toNat - (k+1)):=by
    have:=fill1 (l:=q10 q.lent 0 (wl.take k)) (n:=q.regs.toNat) (by omega) (q1g y)
    rw [ok'] at this
    rw [this,eo,if_neg (fun hh=>hnl ((hin k).1 hh))]
   rw [eo2] at N11
   refine ⟨h910.sam (by simp; omega),_,rfl,q16 (h910.same m4.size (by omega)) 4,by omega,by omega,w11,?_⟩
   intro m11
   refine ⟨sam2 fun b hb=>q0n _ _ _ _ (by omega),next (by omega) _ ⟨N11,by simp only [m11,q02]; omega⟩⟩
  ·have hyl:(k:Int) ∈ q.lent:=yb hb hbf
   refine next (by omega) _ ⟨?_,by omega⟩
   have:=fill0 (l:=q10 q.lent 0 (wl.take k)) (n:=q.regs.toNat) (by omega)
   rw [ok'] at this
   rw [eo,if_pos ((hin k).2 hyl),← this]; exact N9
 ·simp only [decide_eq_false_iff_not] at h1
  have hkl:k=wl.length:=by omega
  subst hkl
  rw [List.take_length] at N7
  have hc:Chg (fun _=>False) ro m3 (rol3 ro b1 b2 b3 fsX.length) m7:=N7.chg L3.new
  obtain ⟨a1,a2,a3⟩:=N7.arr (ro:=ro) (n:=fsX.length)
  obtain ⟨L7,t7⟩:=L3.setHeap (hc.mono fun _=>False.elim) (L3.heap.chg hc id id)
  have B7:Bx0 (rol3 ro b1 b2 b3 fsX.length) m7 [m4.size,m.size]:=fun b hb=>by
   simp at hb
   refine ⟨by omega,?_⟩
   unfold rol3
   rw [q1y (by omega),q1y (by omega),q1y (by omega)]
   rcases hb with rfl | rfl
   ·exact L3.new _ (by omega)
   ·exact (B3 _ (by simp)).2
  refine ⟨frX,L7.box.get 9,?_⟩
  intro m12
  have h712:Ext m7 m12:=(Ext.refl m7).pushed _
  have hrow:rowIs m12 m7.size 0 [.i g,.i 0,.i dst,.s (.mk b1 0 q.regs.toNat q.regs.toNat),.s (.mk b2 0 q.regs.toNat q.regs.toNat),.s (.mk b3 0 q.regs.toNat q.regs.toNat)]:=(Blk.push m7 _ _).row
  obtain ⟨L12,t12⟩:=L7.ext h712
  have B12:=B7.to t12
  clear_value m12
  have ch:=fun {k:Nat} {s:Sl} {l:List Ce} (a:Arr (rol3 ro b1 b2 b3 fsX.length) m7 ty_int 1 k s l)=>a.chg (Chg.ofExt (fun _=>False) h712 L7.new) id
  have hgr:(q0r im g dst wl).regs=wl ++ q0p (q.regs.toNat - wl.length):=by simp [q0r,hqe]
  have hgo:(q0r im g dst wl).own=q10 q.lent 0 wl ++ q0p (q.regs.toNat - wl.length):=by simp [q0r,hqe]
  have hgh:(q0r im g dst wl).held=q0p q.regs.toNat:=by simp [q0r,hqe]
  refine ⟨h712.keepG (L7.box.get 9),FrmL.push L12.frames L12.new (x:=.mk m7.size 0 1 1) rfl (f:=q0r im g dst wl) hrow (by rw [hgr]; exact ch a1) (by rw [hgo]; exact ch a2) (by rw [hgh]; exact ch a3) (by omega) fun ro13 qs m13 q1 q2=>?_⟩
  have t13:To _ m12 ro13 m13:=q2.mono fun k hk=>by omega
  obtain ⟨L13,t13'⟩:=L12.setFrames (q2.mono fun k hk=>by omega) q1
  have B13:=B12.to t13
  refine ⟨t13.samB B12,L13.wrBox (i:=9) (by simp),?_⟩
  intro m14
  obtain ⟨L14,t14⟩:=L13.setBox 9 [.s qs]
  exact ⟨t14.samB B13,ro13,out,hp,qs,L14,(((t3.trans t7).trans t12).trans t13).trans t14⟩
end
end
section
theorem qo9 (regs:List Int):∀ (rs own:List Int) (n:Int),(∀ q ∈ own,n<=q)->∀ q ∈ q0c regs own rs,n - rs.length<=q
 | [],own,n,h,q,hq=>by have:=h q hq; simp; omega
 | r :: rs,own,n,h,q,hq=>by
  have key:∀ own',(∀ q ∈ own',n - 1<=q)->q ∈ q0c regs own' rs->n - (r :: rs).length<=q:=fun own' h' hq'=>by
   have:=qo9 regs rs own' (n - 1) h' q hq'
   simp only [List.length_cons]; omega
  rw [q0c] at hq
  refine key _ (fun q' hq'=>?_) hq
  split at hq'
  ·rcases q5k hq' with h1 | h1
   ·rcases Nat.lt_or_ge r.toNat own.length with h2 | h2
    ·obtain ⟨y,hy⟩:=q00 h2
     have:=h y (q05 hy)
     rw [at_of' hy] at h1; omega
    ·have:setI own r (at' own r - 1)=own:=by unfold setI; exact List.set_eq_of_length_le h2
     rw [this] at hq'
     have:=h q' hq'; omega
   ·have:=h q' h1; omega
  ·have:=h q' hq'; omega
section
variable {m0:Mem} {ro:Nat->Nat} {m:Mem} {mb:Nat} {d p out hp fr:Sl} {s:St} {fs:List Frame} {f:Frame} {r o h:Sl} {css:List (List Ce)}
set_option maxHeartbeats 4000000 in
theorem qsl {im:Image} {x:Instr} (C:Cur im s fs f x) {own:List Int} (hown:own=q0c f.regs f.own (taken im x)) (hM:MayRun im s f x own)
  (S:ST m0 ro m mb q0k (IB d p (q0j im) s out hp fr) out hp fr s.out s.heap fs f r o h css) (him:ImageR m0 d p im) {a j:Sl} (ha:q03 m0 a x.args) (hj:q03 m0 j x.jumps) (hhl:s.heap.length<=900000000) (hout:s.out.length<=900000000) :
  q08 Tryz.prog q4b [vp mb 0,vp fr.blk (fr.off+fs.length*6),xv x a j] m fun _ m'=>IFin m0 ro m mb d p (q0j im) (perform im s fs f x own) m':=by
 apply qfl (mb,0) (fr.blk,fr.off+fs.length*6)
 simp -zeta only [q0a,q09,rI,rS,rB,cI,cB,cS,dI,dB,dS,gk,rg]
 intro m1
 have hx1:Ext m m1:=(Ext.refl m).pushed _
 have s1:m1.size=m.size+1:=by simp [m1]
 obtain ⟨S1,t1⟩:=S.ext hx1
 have B1:Bx0 ro m1 [m.size]:=fun b hb=>by simp at hb; subst hb; exact ⟨by omega,S.lay.new _ (Nat.le_refl _)⟩
 clear_value m1
 have hlens:=C.lens
 have hol0:own.length=f.own.length:=by rw [hown]; exact q3c _ _ _
 have hrl:r.len=f.regs.length:=by have:=S.top.regs.len; simp at this; omega
 have hoL:o.len=f.own.length:=by have:=S.top.own.len; simp at this; omega
 have hal:=ha.len
 have ha4:x.args.length<=4:=C.args4.1
 have hpc:0<=f.pc/\f.pc<=100000:=by
  have hpcF:=C.F.pc
  obtain ⟨pq,_,hpe,hP,_,_⟩:=C.I
  rw [hpe] at hpcF
  have hpl:=hP.len
  omega
 have e4:w64 (f.pc+1)=f.pc+1:=q07 (by omega) (by omega)
 have hfs:fs.length<=1000:=by
  have hdep:=C.ok.depth
  have hcalls:=C.ok.calls
  have hmost:=C.ok.most
  rw [C.fr] at hdep
  simp at hdep; omega
 refine (qds (him.ext S1.lay.base) (S1.lay.box.get 1) C.call (ha.ext S1.lay.base) (by omega) C.args4.2.2.2.1).mono ?_
 rintro _ m2 ⟨ts,lt,rfl,its,_,h12,htb,_⟩
 obtain ⟨S2,t2⟩:=S1.ext h12
 have B2:=B1.to t2
 have htl:=qit im x
 have htsl:=its.len
 have hts0:taken im x ≠ []->ro ts.blk=0:=fun hne=>by
  rcases htb with e | e | e
  ·subst e; simp at htsl; exact absurd (List.length_eq_zero_iff.1 htsl.symm) hne
  ·rw [e]
   refine S.lay.base0 _ (q2c ha fun h0=>?_)
   obtain ⟨y,hy⟩:=List.exists_mem_of_ne_nil _ hne
   have:=qe6 hy
   rw [h0] at this; simp at this
  ·exact S.lay.new _ (by omega)
 refine ⟨t2.samB B1,ts,lt,rfl,?_⟩
 refine forI (n:=(taken im x).length) (by omega) (fun k m'=>ST m0 ro m' mb q0k (IB d p (q0j im) s out hp fr) out hp fr s.out s.heap fs { f with own:=q0c f.regs f.own ((taken im x).take k) } r o h css/\To ro m2 ro m') ⟨S2,Chg.refl _ S2.lay.new⟩ ?_
 rintro k m3 I μ hk ⟨S3,t3⟩ next
 have B3:=B2.to t3
 have hkl:(q0c f.regs f.own ((taken im x).take k)).length=f.own.length:=q3c _ _ _
 refine ⟨fun h1=>?_,fun h1=>?_⟩
 ·simp only [decide_eq_true_eq] at h1
  obtain ⟨y,hy⟩:=q00 (l:=taken im x) (k:=k) (by omega)
  have hyr:=C.takenIn y (q05 hy)
  obtain ⟨_,_,_,g3,g4,_⟩:=S3.top.row
  have its3:q03 m3 ts (taken im x):=q2t its fun hne=>t3.keep _ (q2c its hne) (by rw [hts0 hne]; decide)
  have hT:q0c f.regs f.own ((taken im x).take (k+1))=if 1000<=at' f.regs y then setI (q0c f.regs f.own ((taken im x).take k)) y (at' (q0c f.regs f.own ((taken im x).take k)) y - 1) else q0c f.regs f.own ((taken im x).take k):=by
   rw [q06 hy,qb4]; rfl
  refine ⟨by omega,by omega,y,by simpa using its3.at' hy,r,g3,hyr.1,by omega,_,(S3.regSl (by show f.regs.length<=_; omega)).atI hyr.1 hyr.2,fun h5=>?_,fun h5=>?_⟩
  ·simp only [ge_iff_le,decide_eq_true_eq] at h5
   have hyo:y < (q0c f.regs f.own ((taken im x).take k)).length:=by omega
   have hlo:-4<=at' (q0c f.regs f.own ((taken im x).take k)) y/\at' (q0c f.regs f.own ((taken im x).take k)) y<=999999:=by
    obtain ⟨qq,hqq,hle⟩:=q3x _ _ _ _ (at_get hyr.1 hyo)
    have h7:=C.ownb qq (q05 hqq)
    have h8:=qo9 f.regs ((taken im x).take k) f.own 0 (fun q hq=>(C.ownb q hq).1) _ (q18 hyr.1 hyo)
    have h9:((taken im x).take k).length<=4:=by simp; omega
    omega
   have e5:w64 (at' (q0c f.regs f.own ((taken im x).take k)) y - 1)=at' (q0c f.regs f.own ((taken im x).take k)) y - 1:=q07 (by omega) (by omega)
   refine ⟨o,g4,hyr.1,by omega,_,(S3.ownSl (by show (q0c _ _ _).length<=_; omega)).atI hyr.1 hyo,hyr.1,by omega,S3.top.own.wrI hyr.1 hyo,?_⟩
   rw [e5]
   intro m4
   obtain ⟨S4,t4⟩:=S3.setOwn hyr.1 hyo (at' (q0c f.regs f.own ((taken im x).take k)) y - 1)
   refine ⟨t4.samB B3,next (by omega) _ ⟨?_,t3.trans t4⟩⟩
   rw [hT,if_pos h5]; exact S4
  ·simp only [ge_iff_le,decide_eq_false_iff_not] at h5
   refine next (by omega) _ ⟨?_,t3⟩
   rw [hT,if_neg h5]; exact S3
 simp only [decide_eq_false_iff_not] at h1
 rw [q0b (by omega),← hown] at S3
 clear next hkl hk h1 hts0 its htb htsl
 obtain ⟨_,g1,_,_,_,_⟩:=S3.top.row
 refine ⟨f.pc,g1,S3.top.wrPc,?_⟩
 rw [e4]
 intro m4
 obtain ⟨S4,t4⟩:=S3.setPc (f.pc+1)
 have B4:Bx0 ro m4 [m.size]:=B3.to t4
 have sm4:Sam [m.size] m3 m4:=t4.samB B3
 have t04:To ro m ro m4:=((t1.trans t2).trans t3).trans t4
 clear t4
 replace S4:ST m0 ro m4 mb q0k (IB d p (q0j im) s out hp fr) out hp fr s.out s.heap fs { f with own:=own,pc:=f.pc+1 } r o h css:=S4
 refine ⟨sm4,?_⟩
 clear sm4 g1 S3 t3 B3 t2 B2 S2 h12 I μ
 clear_value m4
 have kp:∀ {M M':Mem},Sam [m.size] M M'->∀ i,gcell M' m.size i=gcell M m.size i:=fun h i=>q16 (h _ (by simp)) i
 have hd:=C.dst
 have hlen3:f.regs.length=own.length/\f.held.length=own.length/\own.length<=2000:=by omega
 have arg0:1<=x.args.length->0<=at' x.args 0/\at' x.args 0 < f.regs.length:=fun h1=>C.arg _ (q18 (by omega) (by omega))
 have ga:∀ {m'},Ext m0 m'->1<=x.args.length->gcell m' a.blk (a.off+Int.toNat (0:Int)*1)=some (vi (at' x.args 0)):=fun hx h1=>(ha.ext hx).atI (by omega) (by omega)
 have gr:∀ {ro m bx out hp fr lo lh o h css own' pc'},ST m0 ro m mb q0k bx out hp fr lo lh fs { f with own:=own',pc:=pc' } r o h css->∀ {i:Int},0<=i->i < f.regs.length->gcell m r.blk (r.off+Int.toNat i*1)=some (vi (at' f.regs i)):=fun S i h0 h1=>(S.regSl (by simp only []; omega)).atI h0 h1
 have g3':∀ {ro m bx out hp fr lo lh o h css own' pc'},ST m0 ro m mb q0k bx out hp fr lo lh fs { f with own:=own',pc:=pc' } r o h css->gcell m fr.blk (fr.off+fs.length*6+3)=some (Sl.v r):=fun S=>S.top.row.2.2.2.1
 have intR:∀ r',r' ∈ x.args->at' f.regs r' < 1000->isInt (at' f.regs r'):=fun r' hr' hlt=>by
  have hin:=C.arg r' hr'
  rcases C.F.reg _ (q18 hin.1 hin.2) with h5 | h5
  ·exact h5
  ·omega
 obtain ⟨pq,_,_,_,_,hI⟩:=C.I
 have hOp:=hI.op
 clear hI
 -- one register is set
 have setR:∀ {ro':Nat->Nat} {hp':Sl} {lh:List Cell} {M:Mem} (SM:ST m0 ro' M mb q0k (IB d p (q0j im) { s with heap:=lh } out hp' fr) out hp' fr s.out lh fs { f with own:=own,pc:=f.pc+1 } r o h css) (tM:To ro m ro' M) (BM:Bx0 ro' M [m.size]) (w n:Int) (s':St),s'={ s with heap:=lh,frames:=fs ++ [Frame.put { f with own:=own,pc:=f.pc+1 } x.dst w n] } ->
   q08 Tryz.prog q1m [vp fr.blk (fr.off+fs.length*6),vi x.dst,vi w,vi n] M fun _ m'=>Sam [m.size] M m'/\IFin m0 ro m mb d p (q0j im) s' m':=fun SM tM BM w n s' e=>by
  refine (q7s SM hd.1 (by show x.dst < f.regs.length; omega) (by show x.dst < own.length; omega) w n).mono ?_
  rintro _ m' ⟨S',t'⟩
  exact ⟨t'.samB BM,_,out,_,fr,by rw [e]; exact S'.lay,tM.trans t'⟩
 have goR:∀ {M:Mem} (hx:Ext m4 M) (v:Int) (s':St),s'={ s with frames:=fs ++ [{ f with own:=own,pc:=v }] } ->
   wrOk M fr.blk (fr.off+fs.length*6+1) 1/\Sam [m.size] M (scells M fr.blk (fr.off+fs.length*6+1) [.i v])/\IFin m0 ro m mb d p (q0j im) s' (scells M fr.blk (fr.off+fs.length*6+1) [.i v]):=fun hx v s' e=>by
  obtain ⟨SM,tM⟩:=S4.ext hx
  obtain ⟨S',t'⟩:=SM.setPc v
  exact ⟨SM.top.wrPc,t'.samB (B4.to tM),ro,out,hp,fr,by rw [e]; exact S'.lay,(t04.trans tM).trans t'⟩
 refine ⟨fun e=>?_,fun e0=>?_⟩
 ·simp only [Bool.or_eq_true,beq_iff_eq] at e
  have h5:=C.args4.2.1
  have h2:=C.args4.2.2.1
  refine (qos S4 ha C.arg ha4 e (fun e5=>h5 (Or.inl e5)) (fun e0 e5=>h2 (by omega)) (fun e0 y hy=>intR y hy (hM.ints (by omega) y hy)) hlen3 ⟨hd.1,by show x.dst < own.length; omega⟩ (by omega)).mono ?_
  rintro _ m5 ⟨ro5,out5,hp5,fr5,L5,t5⟩
  refine ⟨t5.samB B4,ro5,out5,hp5,fr5,?_,t04.trans t5⟩
  have:perform im s fs f x own=(if x.op=0 then { s with frames:=fs ++ [Frame.put { f with own:=own,pc:=f.pc+1 } x.dst x.num 0] } else if x.op=5 then { s with out:=s.out ++ [at' f.regs (at' x.args 0)],frames:=fs ++ [Frame.put { f with own:=own,pc:=f.pc+1 } x.dst (at' f.regs (at' x.args 0)) 0] } else { s with frames:=fs ++ [Frame.put { f with own:=own,pc:=f.pc+1 } x.dst (prim x.op (at' f.regs (at' x.args 0)) (at' f.regs (at' x.args 1))) 0] }):=by
   unfold perform; simp only []
   by_cases a0:x.op=0
   ·rw [if_pos a0,if_pos a0]
   rw [if_neg a0,if_neg a0]
   by_cases a5:x.op=5
   ·rw [if_neg (by omega),if_pos a5,if_pos a5]
   ·rw [if_pos (by omega),if_neg a5]
  rw [this]; exact L5
 simp only [Bool.or_eq_false_iff,beq_eq_false_iff_ne] at e0
 have e1':¬ (x.op=1 \/ x.op=2 \/ x.op=3 \/ x.op=4):=by omega
 have kept':∀ w ∈ f.held,w ≠ 0->1000<=w/\ix w < s.heap.length:=fun w hw hne=>by
  obtain ⟨h1,dd,hdd,_⟩:=C.keptAt w hw hne; exact ⟨h1,q04 hdd⟩
 refine ⟨fun e=>?_,fun e6=>?_⟩
 ·simp only [beq_iff_eq] at e
  have h6:=C.args4.2.2.2.2.1 e
  refine (qkl S4 ha C.arg ha4 hlen3 ⟨h6.1,h6.2.1⟩ (by omega) kept').mono ?_
  rintro _ m5 ⟨ro5,hp5,a0,f',rfl,S5,t5,er,eo,ep,ec⟩
  refine ⟨t5.samB B4,_,rfl,kp (t5.samB B4) 1,(q7s S5 hd.1 (by rw [er]; show x.dst < f.regs.length; omega) (by rw [eo]; show x.dst < own.length; omega) (1000+a0) 1).mono ?_⟩
  rintro _ m6 ⟨S6,t6⟩
  refine ⟨t6.samB (B4.to t5),ro5,out,hp5,fr,?_,(t04.trans t5).trans t6⟩
  have h7:=ec f.pc
  have ep':f'.pc=f.pc+1:=ep
  have h8:({ f' with pc:=f.pc+1 }:Frame)=f':=by rw [← ep']
  rw [h8] at h7
  have:perform im s fs f x own=consSt s fs { f with own:=own } x x.num:=by
   unfold perform consSt; simp only []; rw [if_neg (by omega),if_neg e1',if_neg (by omega),if_pos e]; rfl
  rw [this]
  have h9:consSt s fs { f with own:=own } x x.num={ s with heap:=place s.heap a0 ⟨1,x.num,words f x.args⟩,frames:=fs ++ [Frame.put f' x.dst (1000+a0) 1] }:=h7
  rw [h9]; exact S6.lay
 simp only [beq_eq_false_iff_ne] at e6
 have F4:FP m4 fr.blk (fr.off+fs.length*6) { f with own:=own,pc:=f.pc+1 } r o h:=S4.fp ⟨by show f.regs.length<=_; omega,by show own.length<=_; omega,by show f.held.length<=_; omega⟩
 have wds:∀ {K:Value->Mem->Prop},(∀ ws M,q03 M ws (words f x.args)->Ext m4 M->(words f x.args ≠ []->ro ws.blk=0)->K (Sl.v ws) M)->q08 Tryz.prog q2q [vp fr.blk (fr.off+fs.length*6),Sl.v a] m4 K:=fun hk=>by
  refine (qbq F4.g3 F4.regs (ha.ext S4.lay.base) C.arg (by omega)).mono ?_
  rintro _ m5 ⟨ws,rfl,ow,h45⟩
  have hwl:(words f x.args).length=x.args.length:=by simp [words]
  have iw:q03 m5 ws (words f x.args):=q03.ofOwn (l:=words f x.args) ow (by omega)
  refine hk ws m5 iw h45 fun hne=>?_
  rcases ow.blk with e | e
  ·subst e; have:=iw.len; simp at this; exact absurd (List.length_eq_zero_iff.1 this.symm) hne
  ·exact S4.lay.new _ e
 have h12:(q17 im.decls).length<=12:=by
  have:=fc_12 C.ok.image.sigs.types im.decls.length
  rw [fc_all _ _ (Nat.le_refl _)] at this; exact this
 have hcc12:0<=q0j im/\q0j im<=12:=by unfold q0j; omega
 refine ⟨fun e=>?_,fun e10=>?_⟩
 ·simp only [beq_iff_eq] at e
  have h10:=C.args4.2.2.2.2.2.1 e
  refine ⟨q0j im,S4.lay.box.get 2,wds fun ws m5 iw h45 _=>?_⟩
  obtain ⟨S5,t5⟩:=S4.ext h45
  have B5:=B4.to t5
  have sm5:=t5.samB B4
  have e3:w64 (q0j im+x.num)=q0j im+x.num:=q07 (by omega) (by omega)
  refine ⟨sm5,ws,rfl,kp sm5 2,h45.keepG (S4.lay.box.get 2),kp sm5 1,?_⟩
  rw [e3]
  refine (qha S5 (q0j im+x.num) iw (by simp [words]; omega) (by omega)).mono ?_
  rintro _ m6 ⟨rfl,ro6,hp6,S6,t6⟩
  have sm6:=t6.samB B5
  refine ⟨sm6,_,rfl,kp sm6 1,setR (hp':=hp6) (lh:=place s.heap (q0t s.heap) ⟨1,q0j im+x.num,words f x.args⟩) S6 ((t04.trans t5).trans t6) (B5.to t6) _ _ _ ?_⟩
  unfold perform; simp only []; rw [if_neg (by omega),if_neg e1',if_neg (by omega),if_neg e6,if_pos e]
 simp only [beq_eq_false_iff_ne] at e10
 have pre:perform im s fs f x own=(
   if x.op=14 then { s with heap:=bump s.heap (at' f.regs (at' x.args 0)),frames:=fs ++ [{ f with own:=setI own (at' x.args 0) (at' own (at' x.args 0)+1),pc:=f.pc+1 }] }
   else if x.op=15 then { s with heap:=trim (dropS s.heap [at' f.regs (at' x.args 0)]),frames:=fs ++ [{ f with own:=own,pc:=f.pc+1 }] }
   else if x.op=16 \/ x.op=17 then openSt s fs { f with own:=own } x
   else if x.op=18 then { s with frames:=fs ++ [Frame.put { f with own:=own,pc:=f.pc+1 } x.dst (at' f.regs (at' x.args 0)) (q1g (at' f.regs (at' x.args 0)))] }
   else if x.op=19 then { s with frames:=fs ++ [Frame.put { f with own:=own,pc:=f.pc+1 } x.dst (at' (q01 s.heap (at' f.regs (at' x.args 0))).fields x.num) 0] }
   else if x.op=20 then { s with frames:=fs ++ [{ f with own:=own,pc:=if at' f.regs (at' x.args 0)=0 then x.num else f.pc+1 }] }
   else if x.op=22 then { s with frames:=fs ++ [{ f with own:=own,pc:=x.num }] }
   else if x.op=21 then { s with frames:=fs ++ [{ f with own:=own,pc:=at' x.jumps (idxOf (q1h im.decls x.num) (q01 s.heap (at' f.regs (at' x.args 0))).tag) }] }
   else if x.op=9 \/ x.op=24 then { s with calls:=s.calls+1,frames:=if x.op=24 then fs ++ [q0r im x.num f.dst (words f x.args)] else fs ++ [{ f with own:=own,pc:=f.pc+1 },q0r im x.num x.dst (words f x.args)] }
   else if x.op=11 then { s with calls:=s.calls+1,heap:=apart s.heap (at' f.regs (at' x.args 0)),frames:=fs ++ [{ f with own:=own,pc:=f.pc+1 },q0r im ((q01 s.heap (at' f.regs (at' x.args 0))).tag - q0j im) x.dst ((q01 s.heap (at' f.regs (at' x.args 0))).fields ++ [at' f.regs (at' x.args 1)])] }
   else match fs.getLast? with | none=>{ s with status:=0,value:=at' f.regs (at' x.args 0),frames:=[] } | some g=>{ s with frames:=fs.dropLast ++ [g.put f.dst (at' f.regs (at' x.args 0)) (q1g (at' f.regs (at' x.args 0)))] }):=by
  unfold perform
  simp only []
  rw [if_neg (by omega),if_neg e1',if_neg (by omega),if_neg e6,if_neg e10]
  by_cases a14:x.op=14
  ·rw [if_pos a14,if_pos a14]
  rw [if_neg a14,if_neg a14]
  by_cases a15:x.op=15
  ·rw [if_pos a15,if_pos a15]
  rw [if_neg a15,if_neg a15]
  by_cases a16:x.op=16 \/ x.op=17
  ·rw [if_pos a16,if_pos a16]; rfl
  rw [if_neg a16,if_neg a16]
  by_cases a18:x.op=18
  ·rw [if_pos a18,if_pos a18]
  rw [if_neg a18,if_neg a18]
  by_cases a19:x.op=19
  ·rw [if_pos a19,if_pos a19]
  rw [if_neg a19,if_neg a19]
  by_cases a20:x.op=20
  ·rw [if_pos a20,if_pos a20]
  rw [if_neg a20,if_neg a20]
  by_cases a21:x.op=21
  ·rw [if_pos a21,if_neg (by omega),if_pos a21]
  rw [if_neg a21]
  by_cases a22:x.op=22
  ·rw [if_pos a22,if_pos a22]
  rw [if_neg a22,if_neg a22,if_neg a21]
  by_cases a9:x.op=9
  ·rw [if_pos a9,if_pos (Or.inl a9),if_neg (by omega)]
  rw [if_neg a9]
  by_cases a24:x.op=24
  ·rw [if_pos a24,if_pos (Or.inr a24),if_pos a24]
  rw [if_neg a24,if_neg (show ¬ (x.op=9 \/ x.op=24) by omega)]
  by_cases a11:x.op=11
  ·rw [if_pos a11,if_pos a11]
  rw [if_neg a11,if_neg a11]
  cases fs.getLast? <;> rfl
 rw [pre]
 clear pre
 refine ⟨fun e=>?_,fun e14=>?_⟩
 ·simp only [beq_iff_eq] at e
  rw [if_pos e]
  have h2:=C.args4.2.1 (by omega)
  have ha0:=arg0 (by omega)
  obtain ⟨hlv,hmx⟩:=hM.dup e
  obtain ⟨hcc,hpos⟩:=q0i hlv
  have hlt:=q04 hcc
  have hlen4:=S4.lay.heap.len
  have hl1:=hlv.1
  have hix:ix (at' f.regs (at' x.args 0))=(at' f.regs (at' x.args 0) - 1000).toNat:=rfl
  have e5:w64 (at' f.regs (at' x.args 0) - 1000)=at' f.regs (at' x.args 0) - 1000:=q07 (by omega) (by omega)
  have e6':w64 ((q01 s.heap (at' f.regs (at' x.args 0))).count+1)=(q01 s.heap (at' f.regs (at' x.args 0))).count+1:=q07 (by omega) (by omega)
  obtain ⟨f0,k0,_⟩:=S4.lay.heap.get hcc
  refine ⟨hp,S4.lay.box.get 8,r,g3' S4,by omega,by omega,_,ga S4.lay.base (by omega),ha0.1,by omega,_,gr S4 ha0.1 ha0.2,?_⟩
  rw [e5,← hix]
  refine ⟨by omega,by omega,_,k0,by omega,by omega,S4.lay.heap.wr (o:=0) hlt (by decide),?_⟩
  rw [e6']
  intro m5
  obtain ⟨hh5,c5⟩:=S4.lay.heap.setCount S4.lay.new hcc ((q01 s.heap (at' f.regs (at' x.args 0))).count+1)
  obtain ⟨S5,t5⟩:=S4.setHeap (c5.mono fun k hk=>Or.inl hk) hh5
  have B5:=B4.to t5
  have hao:at' x.args 0 < own.length:=by omega
  have hob:0<=at' own (at' x.args 0)/\at' own (at' x.args 0)<=999999:=by
   have hm:=q18 (l:=own) ha0.1 hao
   refine ⟨hM.nn _ hm,?_⟩
   have hg:=at_get (l:=own) ha0.1 hao
   rw [hown] at hg
   obtain ⟨qq,hqq,hle⟩:=q3x _ _ _ _ hg
   have:=(C.ownb qq (q05 hqq)).2
   rw [← hown] at hle
   omega
  have e7:w64 (at' own (at' x.args 0)+1)=at' own (at' x.args 0)+1:=q07 (by omega) (by omega)
  refine ⟨t5.samB B4,o,S5.top.row.2.2.2.2.1,by omega,by omega,_,ga S5.lay.base (by omega),ha0.1,by omega,at' own (at' x.args 0),(S5.ownSl (by show own.length<=_; omega)).atI ha0.1 hao,ha0.1,by omega,S5.top.own.wrI ha0.1 hao,?_⟩
  rw [e7]
  intro m6
  obtain ⟨S6,t6⟩:=S5.setOwn ha0.1 hao (at' own (at' x.args 0)+1)
  exact ⟨t6.samB B5,ro,out,hp,fr,S6.lay,(t04.trans t5).trans t6⟩
 simp only [beq_eq_false_iff_ne] at e14
 rw [if_neg e14]
 refine ⟨fun e=>?_,fun e15=>?_⟩
 ·simp only [beq_iff_eq] at e
  rw [if_pos e]
  have h2:=C.args4.2.1 (by omega)
  have ha0:=arg0 (by omega)
  have args1:x.args=[at' x.args 0]:=by
   cases hx:x.args with
   | nil=>rw [hx] at h2; simp at h2
   | cons y l=>cases l with
    | nil=>rfl
    | cons z l=>rw [hx] at h2; simp at h2
  have hHE:=C.HE hown hM.nn
  have ht:taken im x=[at' x.args 0]:=by unfold taken; rw [if_pos (by omega)]; exact args1
  have hHE1:=hHE.1
  rw [ht] at hHE1
  refine ⟨hp,S4.lay.box.get 8,?_⟩
  intro m5 m6
  obtain ⟨S6,t6,kb⟩:=S4.heapBox
  have B6:Bx0 (upd ro m4.size 5) m6 [m.size]:=B4.to t6
  replace S6:ST m0 (upd ro m4.size 5) m6 mb q0k (IB d p (q0j im) s out hp fr) out hp fr s.out s.heap fs { f with own:=own,pc:=f.pc+1 } r o h css:=S6
  replace t6:To ro m4 (upd ro m4.size 5) m6:=t6
  replace kb:Blk m6 m4.size q1a [.s hp]:=kb
  clear_value m6
  refine ⟨r,g3' S6,by omega,by omega,_,ga S6.lay.base (by omega),ha0.1,by omega,_,gr S6 ha0.1 ha0.2,(qkq S6.lay.heap S6.lay.new kb (q21 _ _ _) (e:=fun b=>owns fs b+q0m f.regs own b) (hHE1.congr fun b=>rfl) hHE.2 (by omega)).mono ?_⟩
  rintro _ m7 ⟨ro7,hp7,hh7,kb7,c7⟩
  obtain ⟨S7,t7⟩:=S6.setHeap c7 hh7
  have B7:=B6.to t7
  refine ⟨t7.samB B6,hp7,kb7.get 0,S7.lay.wrBox (i:=8) (by simp),?_⟩
  intro m8
  obtain ⟨S8,t8⟩:=S7.setBox 8 [.s hp7]
  exact ⟨t8.samB B7,ro7,out,hp7,fr,S8.lay,((t04.trans t6).trans t7).trans t8⟩
 simp only [beq_eq_false_iff_ne] at e15
 rw [if_neg e15]
 refine ⟨fun e=>?_,fun e16=>?_⟩
 ·simp only [Bool.or_eq_true,beq_iff_eq] at e
  rw [if_pos e]
  refine (qr1 S4 ha C.arg ⟨C.args4.2.2.2.1 e,ha4⟩ hlen3 (by omega) (fun q hq=>?_) (hM.open' e).1 C.ok.heap (pc0:=f.pc) rfl).mono ?_
  ·refine ⟨hM.nn q hq,?_⟩
   obtain ⟨k,hk⟩:=List.mem_iff_getElem?.1 hq
   simp only [] at hk
   rw [hown] at hk
   obtain ⟨qq,hqq,hle⟩:=q3x _ _ _ _ hk
   have:=(C.ownb qq (q05 hqq)).2
   omega
  rintro _ m5 ⟨ro5,out5,hp5,fr5,L5,t5⟩
  exact ⟨t5.samB B4,ro5,out5,hp5,fr5,L5,t04.trans t5⟩
 simp only [Bool.or_eq_false_iff,beq_eq_false_iff_ne] at e16
 rw [if_neg (by omega)]
 refine ⟨fun e=>?_,fun e18=>?_⟩
 ·simp only [beq_iff_eq] at e
  rw [if_pos e]
  have h2:=C.args4.2.1 (by omega)
  have ha0:=arg0 (by omega)
  refine ⟨r,g3' S4,by omega,by omega,_,ga S4.lay.base (by omega),ha0.1,by omega,_,gr S4 ha0.1 ha0.2,(q5r _ _).mono ?_⟩
  rintro _ m5 ⟨rfl,h45⟩
  obtain ⟨S5,t5⟩:=S4.ext h45
  have sm5:=t5.samB B4
  exact ⟨sm5,_,rfl,kp sm5 1,setR (lh:=s.heap) S5 (t04.trans t5) (B4.to t5) _ _ _ rfl⟩
 simp only [beq_eq_false_iff_ne] at e18
 rw [if_neg e18]
 refine ⟨fun e=>?_,fun e19=>?_⟩
 ·simp only [beq_iff_eq] at e
  rw [if_pos e]
  have h2:=C.args4.2.1 (by omega)
  have ha0:=arg0 (by omega)
  obtain ⟨hlv,hnum⟩:=hM.load e
  obtain ⟨hcc,hpos⟩:=q0i hlv
  have hlt:=q04 hcc
  have hlen4:=S4.lay.heap.len
  have hl1:=hlv.1
  have hix:ix (at' f.regs (at' x.args 0))=(at' f.regs (at' x.args 0) - 1000).toNat:=rfl
  have e5:w64 (at' f.regs (at' x.args 0) - 1000)=at' f.regs (at' x.args 0) - 1000:=q07 (by omega) (by omega)
  obtain ⟨f0,_,_,k2,kf,_⟩:=S4.lay.heap.get hcc
  have hfll:=kf.len
  unfold OpOk at hOp
  rw [if_neg (by omega),if_neg (by omega),if_neg (by omega),if_neg (by omega),if_neg (by omega),if_neg (by omega),if_neg (by omega),if_pos e] at hOp
  refine ⟨hp,S4.lay.box.get 8,r,g3' S4,by omega,by omega,_,ga S4.lay.base (by omega),ha0.1,by omega,_,gr S4 ha0.1 ha0.2,?_⟩
  rw [e5,← hix]
  exact ⟨by omega,by omega,f0,k2,hOp.2.1,by omega,_,kf.atI hOp.2.1 hnum,setR (lh:=s.heap) S4 t04 B4 _ _ _ rfl⟩
 simp only [beq_eq_false_iff_ne] at e19
 rw [if_neg e19]
 refine ⟨fun e=>?_,fun e20=>?_⟩
 ·simp only [beq_iff_eq] at e
  rw [if_pos e]
  have h2:=C.args4.2.1 (by omega)
  have ha0:=arg0 (by omega)
  refine ⟨r,g3' S4,by omega,by omega,_,ga S4.lay.base (by omega),ha0.1,by omega,_,gr S4 ha0.1 ha0.2,fun h5=>?_,fun h5=>?_⟩
  ·simp at h5; exact goR (Ext.refl _) _ _ (by rw [if_pos h5])
  ·simp at h5; exact ⟨ro,out,hp,fr,by rw [if_neg h5]; exact S4.lay,t04⟩
 simp only [beq_eq_false_iff_ne] at e20
 rw [if_neg e20]
 refine ⟨fun e=>?_,fun e22=>?_⟩
 ·simp only [beq_iff_eq] at e
  rw [if_pos e]
  exact goR (Ext.refl _) _ _ rfl
 simp only [beq_eq_false_iff_ne] at e22
 rw [if_neg e22]
 refine ⟨fun e=>?_,fun e21=>?_⟩
 ·simp only [beq_iff_eq] at e
  rw [if_pos e]
  have h2:=C.args4.2.1 (by omega)
  have ha0:=arg0 (by omega)
  obtain ⟨hlv,htag⟩:=hM.switch e
  obtain ⟨hcc,hpos⟩:=q0i hlv
  have hlt:=q04 hcc
  have hlen4:=S4.lay.heap.len
  have hl1:=hlv.1
  have hix:ix (at' f.regs (at' x.args 0))=(at' f.regs (at' x.args 0) - 1000).toNat:=rfl
  have e5:w64 (at' f.regs (at' x.args 0) - 1000)=at' f.regs (at' x.args 0) - 1000:=q07 (by omega) (by omega)
  obtain ⟨f0,_,k1,_⟩:=S4.lay.heap.get hcc
  unfold OpOk at hOp
  rw [if_neg (by omega),if_neg (by omega),if_neg (by omega),if_neg (by omega),if_neg (by omega),if_neg (by omega),if_neg (by omega),if_neg (by omega),if_neg (by omega),if_neg (by omega),if_pos e] at hOp
  have hidx:idxOf (q1h im.decls x.num) (q01 s.heap (at' f.regs (at' x.args 0))).tag < (q1h im.decls x.num).length:=List.findIdx_lt_length_of_exists ⟨_,htag,by simp⟩
  have hjl:=hj.len
  have hj1:=hOp.2.2.1
  refine ⟨hp,S4.lay.box.get 8,r,g3' S4,by omega,by omega,_,ga S4.lay.base (by omega),ha0.1,by omega,_,gr S4 ha0.1 ha0.2,?_⟩
  rw [e5,← hix]
  refine ⟨by omega,by omega,_,k1,d,S4.lay.box.get 0,(qao (him.ext S4.lay.base).decls C.ok.image.sigs.types x.num).mono ?_⟩
  rintro _ m5 ⟨cs,rfl,ics,h45⟩
  obtain ⟨S5,t5⟩:=S4.ext h45
  have B5:=B4.to t5
  have sm5:=t5.samB B4
  refine ⟨sm5,cs,rfl,kp sm5 5,(q9z ics _).mono ?_⟩
  rintro _ m6 ⟨ri,rfl,h56,hri⟩
  obtain ⟨S6,t6⟩:=S5.ext h56
  have sm6:=t6.samB B5
  have hri':ri=idxOf (q1h im.decls x.num) (q01 s.heap (at' f.regs (at' x.args 0))).tag:=by
   rcases hri with ⟨_,hno⟩ | ⟨_,he⟩
   ·exact absurd htag hno
   ·exact he
  subst hri'
  exact ⟨sm6,_,rfl,kp sm6 5,by omega,by omega,_,(hj.ext S6.lay.base).atI (by omega) (by omega),goR (h45.trans h56) _ _ rfl⟩
 simp only [beq_eq_false_iff_ne] at e21
 rw [if_neg e21]
 have hcl:0<=s.calls/\s.calls<=100000:=by
  have hcalls:=C.ok.calls
  have hmost:=C.ok.most
  omega
 have hokI:=C.ok.image
 refine ⟨fun e=>?_,fun e9=>?_⟩
 ·simp only [Bool.or_eq_true,beq_iff_eq] at e
  rw [if_pos e]
  unfold OpOk at hOp
  rw [if_neg (by omega),if_neg (by omega),if_neg (by omega),if_neg (by omega),if_pos e] at hOp
  obtain ⟨q,hq0,hq1,hq2⟩:=hOp
  have hreg:=(hokI.each q (q05 hq1)).regs
  have h3:=(hokI.sigs.each q (q05 hq1)).1
  have hwl:(words f x.args).length=x.args.length:=by simp [words]
  refine wds fun ws m5 iw h45 hw0=>?_
  obtain ⟨S5,t5⟩:=S4.ext h45
  have B5:=B4.to t5
  have sm5:=t5.samB B4
  refine ⟨sm5,ws,rfl,kp sm5 0,kp sm5 1,kp sm5 2,kp sm5 3,kp sm5 4,kp sm5 5,kp sm5 2,(qk1 S5 him hq0 hq1 (by omega) iw hw0 (by omega) x a j (by omega) hcl).mono ?_⟩
  rintro _ m6 ⟨ro6,out6,hp6,fr6,L6,t6⟩
  exact ⟨t6.samB B5,ro6,out6,hp6,fr6,L6,(t04.trans t5).trans t6⟩
 simp only [Bool.or_eq_false_iff,beq_eq_false_iff_ne] at e9
 rw [if_neg (by omega)]
 refine ⟨fun e=>?_,fun e11=>?_⟩
 ·simp only [beq_iff_eq] at e
  rw [if_pos e]
  have h2:=C.args4.2.2.1 (by omega)
  have ha0:=arg0 (by omega)
  have ha1:0<=at' x.args 1/\at' x.args 1 < f.regs.length:=C.arg _ (q18 (by omega) (by omega))
  obtain ⟨hlv,ht0,ht1,hpar,hlent,hfit⟩:=hM.apply e
  obtain ⟨hcc,hpos⟩:=q0i hlv
  have hCO:=C.ok.heap.cell _ (q05 hcc)
  have hfl3:=hCO.fl
  have htag:=(hCO.alive hpos).2
  have hlt:=q04 hcc
  have hlen4:=S4.lay.heap.len
  have hl1:=hlv.1
  have hix:ix (at' f.regs (at' x.args 0))=(at' f.regs (at' x.args 0) - 1000).toNat:=rfl
  have e5:w64 (at' f.regs (at' x.args 0) - 1000)=at' f.regs (at' x.args 0) - 1000:=q07 (by omega) (by omega)
  obtain ⟨f0,k0,k1,k2,kf,kr⟩:=S4.lay.heap.get hcc
  refine ⟨r,g3' S4,by omega,by omega,_,ga S4.lay.base (by omega),ha0.1,by omega,_,gr S4 ha0.1 ha0.2,hp,S4.lay.box.get 8,?_⟩
  rw [e5,← hix]
  generalize hw:at' f.regs (at' x.args 0)=w at *
  have gv:∀ {ro m bx out hp fr lo lh o h css own' pc'},ST m0 ro m mb q0k bx out hp fr lo lh fs { f with own:=own',pc:=pc' } r o h css->gcell m r.blk (r.off+Int.toNat (at' x.args 1)*1)=some (vi (at' f.regs (at' x.args 1))):=fun S=>gr S ha1.1 ha1.2
  generalize hv:at' f.regs (at' x.args 1)=v at *
  obtain ⟨q,hq⟩:=q00 (l:=im.procs) (k:=((q01 s.heap w).tag - q0j im).toNat) (by omega)
  have hqe:q0y im ((q01 s.heap w).tag - q0j im)=q:=by simp [q0y,hq]
  rw [hqe] at hpar hlent
  have hreg:=(hokI.each q (q05 hq)).regs
  have h3:=(hokI.sigs.each q (q05 hq)).1
  refine ⟨by omega,by omega,_,k0,_,k1,f0,k2,?_⟩
  intro m5 m6
  have h46:Ext m4 m6:=((Ext.refl m4).pushed _).scells (Nat.le_refl _) _ _
  have s6:m6.size=m4.size+1:=by simp [m6,m5,q02]
  obtain ⟨S6,t6⟩:=S4.ext h46
  clear_value m6
  have B6:Bx0 ro m6 [m4.size,m.size]:=fun b hb=>by
   simp at hb
   rcases hb with rfl | rfl
   ·exact ⟨by omega,S4.lay.new _ (Nat.le_refl _)⟩
   ·exact B4.to t6 _ (by simp)
  have ga1:∀ {M},Ext m6 M->gcell M a.blk (a.off+Int.toNat (1:Int)*1)=some (vi (at' x.args 1)):=fun hx=>(ha.ext (S6.lay.base.trans hx)).atI (by omega) (by omega)
  have ew:w64 ((q01 s.heap w).tag - q0j im)=(q01 s.heap w).tag - q0j im:=q07 (by omega) (by omega)
  have tail:∀ {M:Mem} {es:Sl},Ext m6 M->Own m6 M ty_int 1 es (((q01 s.heap w).fields ++ [v]).map Ce.i) ->
    q08 Tryz.prog q2x [vp mb 0,vi w,vb false] M fun r_17 m'=>Sam [m4.size,m.size] M m'/\∃ r322:Bool,r_17=vb r322/\∃ v329:Int,gcell m' mb (0+2)=some (vi v329) /\
     q08 Tryz.prog q34 [vp mb 0,vi (w64 ((q01 s.heap w).tag - v329)),Sl.v es,xv x a j] m' fun _ m''=>Sam [m4.size,m.size] m' m''/\IFin m0 ro m mb d p (q0j im) { s with calls:=s.calls+1,heap:=apart s.heap w,frames:=fs ++ [{ f with own:=own,pc:=f.pc+1 },q0r im ((q01 s.heap w).tag - q0j im) x.dst ((q01 s.heap w).fields ++ [v])] } m'':=fun {M} {es} hx oe=>by
   obtain ⟨SM,tM⟩:=S6.ext hx
   have BM:=B6.to tM
   have ie:q03 M es ((q01 s.heap w).fields ++ [v]):=q03.ofOwn oe (by simp; omega)
   have hesl:es.blk < M.size:=q2c ie (by simp)
   have hes0:ro es.blk=0:=by
    rcases oe.blk with e | e
    ·subst e; have:=ie.len; simp at this
    ·exact S6.lay.new _ e
   refine (qhd SM hlv false C.ok.heap (by omega)).mono ?_
   rintro _ m8 ⟨b,rfl,_,ro8,hp8,S8,t8⟩
   have B8:=BM.to t8
   have hK:apartK s.heap w false=apart s.heap w:=by rw [apartK,if_neg (fun hh=>by simp at hh)]
   rw [hK] at S8
   have ie8:q03 m8 es ((q01 s.heap w).fields ++ [v]):=q2t ie fun _=>t8.keep _ hesl (by rw [hes0]; decide)
   refine ⟨t8.samB BM,b,rfl,q0j im,S8.lay.box.get 2,?_⟩
   rw [ew]
   refine (qk1 (s:={ s with heap:=apart s.heap w }) S8 him ht0 hq (by omega) ie8 (fun _=>by rw [t8.role _ hesl]; exact hes0) (by simp; omega) x a j (by omega) hcl).mono ?_
   rintro _ m9 ⟨ro9,out9,hp9,fr9,L9,t9⟩
   refine ⟨t9.samB B8,ro9,out9,hp9,fr9,?_,(((t04.trans t6).trans tM).trans t8).trans t9⟩
   rw [if_neg (by omega)] at L9
   exact L9
  refine ⟨r,g3' S6,by omega,by omega,_,ga1 (Ext.refl _),ha1.1,by omega,v,gv S6,?_,?_⟩
  ·refine (q1k (kf.ext h46) (by omega)).mono ?_
   rintro _ m7 ⟨cl,rfl,oc,h67⟩
   obtain ⟨S7,t7⟩:=S6.ext h67
   have B7:=B6.to t7
   refine ⟨t7.samB B6,cl,rfl,h67.keepG (gv S6),h67.keepG (ga1 (Ext.refl _)),q16 (h67.same m.size (B6 _ (by simp)).1) 4,h67.keepG (g3' S6),?_⟩
   intro m8
   have h78:Ext m7 m8:=(Ext.refl m7).pushed _
   refine ⟨q16 (h78.same m4.size (B7 _ (by simp)).1) 2,q54 oc h67 (by omega) fun es m9 o9 h69=>⟨?_,tail h69 o9⟩⟩
   intro b hb
   have hbl:=(B6 b hb).1
   rw [h69.same b hbl,h78.same b (by have:=h67.size; omega),h67.same b hbl]
  ·intro m7
   have h67:Ext m6 m7:=(Ext.refl m6).pushed _
   have s7:m7.size=m6.size+1:=by simp [m7]
   have hrow:rowIs m7 m6.size 0 [.i v]:=(Blk.push m6 _ _).row
   have hbl7:Blk m7 m6.size ty_int [.i v]:=Blk.push m6 _ _
   clear_value m7
   obtain ⟨S7,t7⟩:=S6.ext h67
   have B7:=B6.to t7
   refine ⟨q16 (h67.same m4.size (B6 _ (by simp)).1) 2,(q1k (kf.ext (h46.trans h67)) (by omega)).mono ?_⟩
   rintro _ m8 ⟨cl,rfl,oc,h78⟩
   obtain ⟨S8,t8⟩:=S7.ext h78
   have hcll:cl.len=(q01 s.heap w).fields.length:=by have:=oc.len; simp at this; omega
   refine ⟨t8.samB B7,cl,rfl,h78.keepG (gv S7),h78.keepG (ga1 h67),q16 (h78.same m.size (B7 _ (by simp)).1) 4,h78.keepG (g3' S7),?_⟩
   have h68:=h67.trans h78
   refine Own.append (zs:=[.i 0]) (x:=.mk m6.size 0 1 1) (new:=[.i v]) (oc.base (by omega)) h68 rfl (hbl7.ext h78).row (by simp only [Sl.len_mk]; omega) fun es m9 o9 h69 _ _ _ _=>⟨?_,tail h69 (by simpa using o9)⟩
   intro b hb
   have hbl:=(B6 b hb).1
   rw [h69.same b hbl,h68.same b hbl]
 simp only [beq_eq_false_iff_ne] at e11
 rw [if_neg e11]
 refine ⟨fun e=>?_,fun e23=>?_⟩
 ·simp only [beq_iff_eq] at e
  have h2:=C.args4.2.1 (by omega)
  have ha0:=arg0 (by omega)
  refine ⟨r,g3' S4,by omega,by omega,_,ga S4.lay.base (by omega),ha0.1,by omega,_,gr S4 ha0.1 ha0.2,(qmo S4 (by omega) (at' f.regs (at' x.args 0)) (fun g hg=>?_)).mono ?_⟩
  ·have hne:fs ≠ []:=fun e=>by rw [e] at hg; simp at hg
   have hfs':fs=fs.dropLast ++ [g]:=by
    rw [List.getLast?_eq_some_getLast hne] at hg
    simp at hg
    rw [← hg]; exact (List.dropLast_concat_getLast hne).symm
   have hdl:fs.length=fs.dropLast.length+1:=by
    have:=congrArg List.length hfs'
    simpa using this
   obtain ⟨q1,q2,q3⟩:=C.ok.chain fs.dropLast.length g f (by rw [C.fr,hfs']; simp) (by rw [C.fr,← hdl]; simp)
   have hGF:=C.ok.frames g (by rw [C.fr,hfs']; simp)
   have:=hGF.lr
   have:=hGF.lo
   exact ⟨q1,by show f.dst < _; omega,by show f.dst < _; omega⟩
  rintro _ m5 ⟨ro5,out5,hp5,fr5,L5,t5⟩
  exact ⟨t5.samB B4,ro5,out5,hp5,fr5,L5,t04.trans t5⟩
 simp only [beq_eq_false_iff_ne] at e23
 have:=C.opc
 omega
end
end
section
section
variable {m0:Mem} {ro:Nat->Nat} {m:Mem} {mb:Nat} {d p out hp fr:Sl} {s:St}
set_option maxHeartbeats 1000000 in
theorem qrr {im:Image} (L:Lay m0 ro m mb q0k (IB d p (q0j im) s out hp fr) out hp fr s.out s.heap s.frames) (him:ImageR m0 d p im) (hok:StateOk im s) (hfit:∀ g ∈ s.frames,∀ w ∈ g.regs,w<=9223372036854775807) (hhl:s.heap.length<=900000000) (hout:s.out.length<=900000000) :
  q08 Tryz.prog q64 [vp mb 0] m fun _ m'=>IFin m0 ro m mb d p (q0j im) (step im s) m':=by
 apply qe2 (mb,0)
 simp -zeta only [q0a,q09,rI,rS,rB,cI,cB,cS,dI,dB,dS,gk,rg]
 refine ⟨s.status,L.box.get 3,fun h1=>?_,fun h1=>?_⟩
 ·simp at h1
  rw [q9n h1]
  exact ⟨ro,out,hp,fr,L,Chg.refl _ L.new⟩
 have hrun:s.status=3:=by simpa using h1
 obtain ⟨fs,f,hf⟩:=hok.split hrun
 have hlf:s.frames.getLast?=some f:=by rw [hf]; simp
 have hdl:s.frames.dropLast=fs:=by rw [hf]; simp
 have C:Cur im s fs f (q14 im f):=⟨hok,hrun,hf,rfl,hfit⟩
 have hst:step im s=(open Classical in if isCall (q14 im f).op/\s.calls=s.most then { s with status:=1 } else if MayRun im s f (q14 im f) (q0c f.regs f.own (taken im (q14 im f))) then perform im s fs f (q14 im f) (q0c f.regs f.own (taken im (q14 im f))) else { s with status:=2 }):=by
  unfold step; rw [if_neg (by simpa using hrun),hlf,hdl]
 rw [hst]
 generalize q14 im f=x at *
 have L':Lay m0 ro m mb q0k (IB d p (q0j im) s out hp fr) out hp fr s.out s.heap (fs ++ [f]):=by rw [← hf]; exact L
 obtain ⟨r,o,h,css,T⟩:=L'.frames.top
 have S:ST m0 ro m mb q0k (IB d p (q0j im) s out hp fr) out hp fr s.out s.heap fs f r o h css:=⟨L',T⟩
 have hfl:=T.frLen
 have hdep:=hok.depth
 have hcalls:=hok.calls
 have hmost:=hok.most
 rw [hf] at hdep
 have hfs:fs.length<=1000:=by simp at hdep; omega
 have e1:w64 ((fr.len:Int) - 1)=(fs.length:Int):=by rw [q07 (by omega) (by omega)]; omega
 have e2:Int.toNat (fs.length:Int)=fs.length:=by omega
 have g9:gcell m mb 9=some (Sl.v fr):=S.lay.box.get 9
 obtain ⟨g0,g1,_,_,_,_⟩:=T.row
 obtain ⟨q,hq,hqe,hP,hcode,hI⟩:=C.I
 obtain ⟨pa,pl,pc,hpa,hpl,hpc,k0,k1,k2,k3,k4⟩:=him.procs.at' hq
 obtain ⟨a,j,ha,hj,i0,i1,i2,i3,i4,i5⟩:=hpc.at' hcode
 have hprl:=him.procs.len
 have hpcl:=hpc.len
 have hF:=C.F
 have hproc:=hF.proc
 have hfpc:=hF.pc
 rw [hqe] at hfpc
 have hb:=S.lay.base
 refine ⟨fr,g9,fr,g9,?_⟩
 rw [e1,e2]
 refine ⟨by omega,by omega,p,S.lay.box.get 1,_,g0,hproc.1,by omega,pc,hb.gcell k4,_,g1,hfpc.1,by omega,_,hb.gcell i0,_,hb.gcell i1,_,hb.gcell i2,_,hb.gcell i3,a,hb.gcell i4,j,hb.gcell i5,?_⟩
 intro m1
 have hx1:Ext m m1:=(Ext.refl m).pushed _
 refine ⟨hx1.keepG (hb.gcell i0),hx1.keepG (hb.gcell i1),hx1.keepG (hb.gcell i2),hx1.keepG (hb.gcell i3),hx1.keepG (hb.gcell i4),hx1.keepG (hb.gcell i5),hx1.keepG g1,hx1.keepG (hb.gcell k4),hx1.keepG g0,hx1.keepG (S.lay.box.get 1),?_⟩
 intro m2
 have hx2:Ext m m2:=hx1.scells (Nat.le_refl _) _ _
 have s2:m2.size=m.size+1:=by simp [m2,m1,q02]
 obtain ⟨S2,t2⟩:=S.ext hx2
 have B2:Bx0 ro m2 [m.size]:=fun b hb=>by simp at hb; subst hb; exact ⟨by omega,S.lay.new _ (Nat.le_refl _)⟩
 clear_value m2
 have hlens:=C.lens
 have hss:({ s with frames:=fs ++ [f] }:St)=s:=by rw [← hf]
 have hfr2:FrameSl m2 fr (fs ++ [f]):=S2.lay.frames.read (by simp; omega) (fun g hg=>by
  have hG:=hok.frames g (by rw [hf]; exact hg)
  obtain ⟨pg,_,hge,hPg,_⟩:=hG.instr hok.image
  have q1:=hG.lr
  have q2:=hG.lo
  have q3:=hG.lh
  rw [hge] at q1 q2 q3
  have:=hPg.regs
  omega)
 have hV2:RV m2 mb 3 d p out hp fr im s:=by
  have:RV m2 mb 3 d p out hp fr im { s with frames:=fs ++ [f] }:=⟨him.ext S2.lay.base,S2.lay.box.get 0,S2.lay.box.get 1,S2.lay.box.get 3,S2.lay.box.get 4,S2.lay.box.get 5,S2.lay.box.get 6,S2.lay.box.get 7,S2.lay.box.get 8,S2.lay.box.get 9,S2.lay.out.ints (by omega),S2.lay.heap.cells (by omega),hfr2⟩
  rw [hss] at this; exact this
 have F2:FP m2 fr.blk (fr.off+fs.length*6) f r o h:=S2.fp ⟨by omega,by omega,by omega⟩
 have rest:¬ (isCall x.op/\s.calls=s.most)->q08 Tryz.prog q41 [vp mb 0,vp fr.blk (fr.off+fs.length*6),xv x a j] m2 fun r_2 m1_7 =>
   Sam [m.size] m2 m1_7/\∃ r82_1:Bool,r_2=vb r82_1 /\
   ((!r82_1)=true->wrOk m1_7 mb (0+3) 1/\let m1_8:Mem:=scells m1_7 mb (0+3) [.i (2:Int)]
    Sam [m.size] m1_7 m1_8/\IFin m0 ro m mb d p (q0j im) (open Classical in if isCall x.op/\s.calls=s.most then { s with status:=1 } else if MayRun im s f x (q0c f.regs f.own (taken im x)) then perform im s fs f x (q0c f.regs f.own (taken im x)) else { s with status:=2 }) m1_8) /\
   ((!r82_1)=false->q08 Tryz.prog q4b [vp mb 0,vp fr.blk (fr.off+fs.length*6),xv x a j] m1_7 fun r_3 m1_9 =>
    Sam [m.size] m1_7 m1_9/\IFin m0 ro m mb d p (q0j im) (open Classical in if isCall x.op/\s.calls=s.most then { s with status:=1 } else if MayRun im s f x (q0c f.regs f.own (taken im x)) then perform im s fs f x (q0c f.regs f.own (taken im x)) else { s with status:=2 }) m1_9):=fun hno=>by
  refine (qs1 hV2 (S2.lay.box.get 2) C F2 (ha.ext S2.lay.base) (by omega)).mono ?_
  rintro _ m3 ⟨b,rfl,hb3,h23⟩
  obtain ⟨S3,t3⟩:=S2.ext h23
  have B3:=B2.to t3
  rw [if_neg hno]
  refine ⟨t3.samB B2,b,rfl,fun h4=>?_,fun h4=>?_⟩
  ·rw [if_neg (nb hb3 h4)]
   refine ⟨S3.lay.wrBox (i:=3) (by simp),?_⟩
   intro m4
   obtain ⟨S4,t4⟩:=S3.setBox 3 [.i 2]
   refine ⟨t4.samB B3,ro,out,hp,fr,?_,(t2.trans t3).trans t4⟩
   have:=S4.lay
   rw [← hf] at this
   exact this
  ·have hM:=yb hb3 h4
   rw [if_pos hM]
   refine (qsl C rfl hM S3 him ha hj hhl hout).mono ?_
   rintro _ m4 ⟨ro',out',hp',fr',L4,t4⟩
   exact ⟨t4.samB B3,ro',out',hp',fr',L4,(t2.trans t3).trans t4⟩
 refine ⟨fun cb m'=>m'=m2/\(cb=true ↔ isCall x.op),⟨fun h4=>⟨rfl,by simp at h4; simp [isCall,h4]⟩,fun h4=>⟨fun h5=>⟨rfl,by simp at h5; simp [isCall,h5]⟩,fun h5=>⟨rfl,by simp at h4 h5; simp [isCall,h4,h5]⟩⟩⟩,?_⟩
 rintro cb m3 ⟨rfl,hcb⟩
 refine ⟨fun hct=>⟨s.calls,S2.lay.box.get 5,s.most,S2.lay.box.get 6,fun h6=>?_,fun h6=>?_⟩,fun hcf=>?_⟩
 ·simp at h6
  refine ⟨S2.lay.wrBox (i:=3) (by simp),?_⟩
  intro m4
  obtain ⟨S4,t4⟩:=S2.setBox 3 [.i 1]
  refine ⟨t4.samB B2,ro,out,hp,fr,?_,t2.trans t4⟩
  rw [if_pos ⟨hcb.1 hct,h6⟩]
  have:=S4.lay
  rw [← hf] at this
  exact this
 ·simp at h6
  exact rest fun hh=>h6 hh.2
 ·exact rest fun hh=>by have:=hcb.2 hh.1; rw [hcf] at this; simp at this
end
def OutR (m m':Mem) (s:Sl) (l:List Int):Prop:=l.length<=1000000000/\q03 m' s l/\(l ≠ []->Own m m' ty_int 1 s (l.map Ce.i))
theorem qpx (im:Image):∀ (a b:Nat) (s:St),steps im (a+b) s=steps im b (steps im a s)
 | 0,b,s=>by simp [steps]
 | a+1,b,s=>by rw [Nat.succ_add]; simp only [steps]; exact qpx im a b _
end
end Go.Proofs.YtpggcodlaajceaaGreat
section
/- The laws' helpers: marks, and slices of numbers. -/
namespace Go.Vc
theorem qd0 {m:Mem} {b o:Nat} {v:Value} (h:(gcell m b o).isSome=true):gcell (scell m b o v) b o=some v:=by
 unfold gcell at h ⊢
 simp only [scell,Array.getElem?_modify,if_true]
 cases hb:m[b]? with
 | none=>rw [hb] at h; simp at h
 | some ob =>
  rw [hb] at h
  cases ob with
  | cells c e f =>
   simp only [] at h
   have hlt:o < c.size:=by
    rcases Nat.lt_or_ge o c.size with h' | h'
    ·exact h'
    ·rw [Array.getElem?_eq_none h'] at h; simp at h
   simp [hlt]
  | _=>simp at h
theorem qpj {m:Mem} {b o b' o':Nat} {v:Value} (h:b' ≠ b \/ o' ≠ o):gcell (scell m b o v) b' o'=gcell m b' o':=by
 by_cases hb:b'=b
 ·subst hb
  have ho:o' ≠ o:=by rcases h with h | h; exact absurd rfl h; exact h
  unfold gcell
  simp only [scell,Array.getElem?_modify,if_true]
  cases hb:m[b']? with
  | none=>rfl
  | some ob =>
   cases ob with
   | cells c e f=>simp [Ne.symm ho]
   | _=>rfl
 ·exact q16 (qmr _ _ _ _ hb) _
theorem qsv (m:Mem) (b o:Nat) (v:Value) (b' o':Nat):froz (scell m b o v) b' o'=froz m b' o':=by
 by_cases hb:b'=b
 ·subst hb
  unfold froz
  simp only [scell,Array.getElem?_modify,if_true]
  cases hb:m[b']? with
  | none=>rfl
  | some ob =>
   cases ob with
   | cells c e f=>rfl
   | _=>rfl
 ·unfold froz; rw [qmr _ _ _ _ hb]
structure MkR (m:Mem) (k:Int) (pos:List (Nat × Nat)) (m':Mem):Prop where
 size:m.size<=m'.size
 blk:∀ b,b < m.size->(∀ p ∈ pos,p.1 ≠ b)->m'[b]?=m[b]?
 cell:∀ b o,b < m.size->(b,o) ∉ pos->gcell m' b o=gcell m b o
 froz:∀ b o,b < m.size->Vc.froz m' b o=Vc.froz m b o
 int:∀ p ∈ pos,∃ n,gcell m' p.1 p.2=some (vi n)
 val:pos.Nodup->∀ (j:Nat) (p:Nat × Nat),pos[j]?=some p->gcell m' p.1 p.2=some (vi (k+j))
theorem MkR.nil {m m':Mem} (h:Ext m m') (k:Int):MkR m k [] m' :=
 ⟨h.size,fun b hb _=>h.same b hb,fun b o hb _=>q16 (h.same b hb) o,fun b o hb=>by unfold Vc.froz; rw [h.same b hb],by simp,by simp⟩
theorem MkR.one {m:Mem} {b o:Nat} (h:(gcell m b o).isSome=true) (k:Int):MkR m k [(b,o)] (scells m b o [.i k]):=by
 refine ⟨Nat.le_of_eq (q02 _ _ _ _).symm,fun c hc hn=>q0n _ _ _ _ fun e=>hn (b,o) (by simp) e.symm,fun c q hc hn=>?_,fun c q hc=>qsv _ _ _ _ _ _,fun p hp=>?_,fun _ j p hp=>?_⟩
 ·refine qpj ?_
  by_cases e:c=b
  ·right; intro e2; subst e; subst e2; simp at hn
  ·exact Or.inl e
 ·simp at hp; subst hp; exact ⟨k,qd0 h⟩
 ·cases j with
  | zero =>
   simp at hp; subst hp
   have e:k+((0:Nat):Int)=k:=by omega
   rw [e]; exact qd0 h
  | succ j=>simp at hp
theorem MkR.trans {m m1 m2:Mem} {k:Int} {p1 p2:List (Nat × Nat)} (h:MkR m k p1 m1) (g:MkR m1 (k+p1.length) p2 m2):MkR m k (p1 ++ p2) m2:=by
 have hs:=h.size
 refine ⟨Nat.le_trans h.size g.size,fun b hb hn=>?_,fun b o hb hn=>?_,fun b o hb=>?_,fun p hp=>?_,fun hd j p hp=>?_⟩
 ·rw [g.blk b (by omega) fun p hp=>hn p (List.mem_append_right _ hp),h.blk b hb fun p hp=>hn p (List.mem_append_left _ hp)]
 ·rw [g.cell b o (by omega) fun hp=>hn (List.mem_append_right _ hp),h.cell b o hb fun hp=>hn (List.mem_append_left _ hp)]
 ·rw [g.froz b o (by omega),h.froz b o hb]
 ·by_cases h2:p ∈ p2
  ·exact g.int p h2
  ·have h3:p ∈ p1:=by rcases List.mem_append.1 hp with h3 | h3; exact h3; exact absurd h3 h2
   obtain ⟨n,hn⟩:=h.int p h3
   exact ⟨n,by rw [g.cell p.1 p.2 (q5m hn) h2]; exact hn⟩
 ·obtain ⟨d1,d2,d3⟩:=List.nodup_append.1 hd
  by_cases hj:j < p1.length
  ·rw [List.getElem?_append_left hj] at hp
   have h3:p ∈ p1:=List.mem_of_getElem? hp
   obtain ⟨n,hn⟩:=h.int p h3
   rw [g.cell p.1 p.2 (q5m hn) fun h4=>d3 p h3 p h4 rfl]
   exact h.val d1 j p hp
  ·rw [List.getElem?_append_right (by omega)] at hp
   have:=g.val d2 _ p hp
   have e:k+(p1.length:Int)+((j - p1.length:Nat):Int)=k+j:=by omega
   rw [e] at this; exact this
inductive Row where
 | nil
 | int (r:Row)
 | sl (e r:Row)
def Row.size:Row->Nat
 | .nil=>0
 | .int r=>r.size+1
 | .sl _ r=>r.size+1
inductive Kind where
 | row (r:Row)
 | rows (e:Row) (n:Nat)
inductive Walk (m:Mem):Kind->Nat->Nat->List (Nat × Nat)->Prop where
 | nil (b o:Nat):Walk m (.row .nil) b o []
 | int {b o:Nat} {r:Row} {p:List (Nat × Nat)} {n:Int} (h:gcell m b o=some (vi n)) (hf:Vc.froz m b o=false) (hr:Walk m (.row r) b (o+1) p):Walk m (.row (.int r)) b o ((b,o) :: p)
 | sl {b o:Nat} {e r:Row} {p1 p2:List (Nat × Nat)} {s:Sl} (h:gcell m b o=some (Sl.v s)) (hl:s.len<=9223372036854775807) (he:Walk m (.rows e s.len) s.blk s.off p1) (hr:Walk m (.row r) b (o+1) p2):Walk m (.row (.sl e r)) b o (p1 ++ p2)
 | zero (e:Row) (b o:Nat):Walk m (.rows e 0) b o []
 | succ {b o n:Nat} {e:Row} {p1 p2:List (Nat × Nat)} (he:Walk m (.row e) b o p1) (hr:Walk m (.rows e n) b (o+e.size) p2):Walk m (.rows e (n+1)) b o (p1 ++ p2)
theorem Walk.ints {m:Mem} {K:Kind} {b o:Nat} {pos:List (Nat × Nat)} (h:Walk m K b o pos):∀ p ∈ pos,∃ n,gcell m p.1 p.2=some (vi n):=by
 induction h with
 | nil=>simp
 | int h hf hr ih =>
  intro p hp
  rcases List.mem_cons.1 hp with rfl | hp
  ·exact ⟨_,h⟩
  ·exact ih p hp
 | sl h hl he hr ih1 ih2 =>
  intro p hp
  rcases List.mem_append.1 hp with hp | hp
  ·exact ih1 p hp
  ·exact ih2 p hp
 | zero=>simp
 | succ he hr ih1 ih2 =>
  intro p hp
  rcases List.mem_append.1 hp with hp | hp
  ·exact ih1 p hp
  ·exact ih2 p hp
theorem Walk.lt {m:Mem} {K:Kind} {b o:Nat} {pos:List (Nat × Nat)} (h:Walk m K b o pos):∀ p ∈ pos,p.1 < m.size:=fun p hp=>let ⟨_,hn⟩:=h.ints p hp; q5m hn
theorem qtt (n:Int) (s:Sl):vi n ≠ Sl.v s:=by cases s <;> simp [vi,Sl.v]
theorem Walk.mark {m m':Mem} {k:Int} {q:List (Nat × Nat)} (g:MkR m k q m') (hq:∀ p ∈ q,∃ n,gcell m p.1 p.2=some (vi n)) {K:Kind} {b o:Nat} {pos:List (Nat × Nat)} (h:Walk m K b o pos):Walk m' K b o pos:=by
 induction h with
 | nil=>exact .nil _ _
 | @int b o r p n h hf hr ih =>
  have hb:=q5m h
  by_cases hm:(b,o) ∈ q
  ·obtain ⟨n',hn'⟩:=g.int _ hm
   exact .int hn' (by rw [g.froz b o hb]; exact hf) ih
  ·exact .int (by rw [g.cell b o hb hm]; exact h) (by rw [g.froz b o hb]; exact hf) ih
 | @sl b o e r p1 p2 s h hl he hr ih1 ih2 =>
  have hb:=q5m h
  refine .sl (s:=s) ?_ hl ih1 ih2
  rw [g.cell b o hb fun hm=>?_]
  ·exact h
  ·obtain ⟨n,hn⟩:=hq _ hm
   rw [h] at hn
   exact qtt n s (Option.some.inj hn).symm
 | zero=>exact .zero _ _ _
 | succ he hr ih1 ih2=>exact .succ ih1 ih2
theorem Walk.ext {m m':Mem} (hx:Ext m m') {K:Kind} {b o:Nat} {pos:List (Nat × Nat)} (h:Walk m K b o pos):Walk m' K b o pos:=h.mark (MkR.nil hx 0) (by simp)
end Go.Vc
namespace Go.Proofs.YtpggcodlaajceaaGreat
open Go.Vc
def SzR (left:Int) (P:Prop) (m:Mem) (v:Value) (m':Mem):Prop:=∃ n,v=vi n/\n<=left/\(0<=n->P)/\Ext m m'
def Lft (left:Int):Prop:=0<=left/\left<=1048576
theorem q2i {m:Mem} {s:Sl} {l:List Int} (h:q03 m s l) {left:Int} (h0:Lft left):q08 Tryz.prog q25 [Sl.v s,vi left] m (SzR left (l.length<=1048576) m):=by
 apply qkt
 have h1:=h.len
 have h2:=h.lim
 obtain ⟨h3,h4⟩:=h0
 have e:w64 (left - (s.len:Int))=left - s.len:=q07 (by omega) (by omega)
 rw [e]
 exact ⟨fun _=>⟨-1,rfl,by omega,fun h=>by omega,Ext.refl _⟩,fun h5=>⟨_,rfl,by omega,fun h=>by omega,Ext.refl _⟩⟩
theorem q2g {m:Mem} {s:Sl} {l:List Int} (hs:q03 m s l) (hsm:l.length<=1048576):GivesI q23 [Sl.v s] m l:=by
 apply qkp
 have hsl:=hs.len
 have e0:Int.toNat (s.len:Int)=l.length:=by omega
 rw [e0]
 refine ⟨by omega,Int.le_refl _,by omega,by omega,?_⟩
 intro m1
 have h1:Ext m m1:=(Ext.refl m).pushed _
 have k1:Blk m1 m.size ty_int ((q0p l.length).map Ce.i):=by rw [← q72]; exact Blk.push m _ _
 clear_value m1
 simp -zeta only [Sl.blk_mk,Sl.off_mk,Sl.len_mk,Nat.zero_add]
 refine forI (n:=l.length) (by omega) (fun k m'=>Ext m m'/\Blk m' m.size ty_int ((l.take k ++ q0p (l.length - k)).map Ce.i)) ⟨h1,by simpa using k1⟩ ?_
 rintro k m2 I μ hk ⟨hx,kk⟩ next
 refine ⟨fun h=>?_,fun h=>?_⟩
 ·simp only [decide_eq_true_eq] at h
  obtain ⟨y,hy⟩:=q00 (l:=l) (k:=k) (by omega)
  have ek:Int.toNat (k:Int)*1=k:=by omega
  have tk:(l.take k).length=k:=by simp; omega
  refine ⟨by omega,by omega,y,by simpa using hx.gcell (hs.at' hy),by omega,by omega,?_⟩
  rw [ek]
  refine ⟨kk.wrOk (by simp [q31]; omega),next (by omega) _ ⟨hx.scells (Nat.le_refl _) _ _,?_⟩⟩
  have:=Blk.scells (m:=m2) (o:=k) (r:=[.i y]) kk
  rw [qcw] at this
  have e1:=fill1 (l:=l.take k) (n:=l.length) (by omega) y
  rw [tk] at e1
  rw [e1,← q06 hy] at this; exact this
 ·simp only [decide_eq_false_iff_not] at h
  have hkl:k=l.length:=by omega
  subst hkl
  rw [List.take_length,Nat.sub_self] at kk
  simp only [q0p,List.replicate_zero,List.append_nil] at kk
  exact ⟨_,rfl,⟨by simp,Or.inr ⟨m.size,l.length,[],rfl,Nat.le_refl _,by rw [List.append_nil]; exact kk,by simp,Nat.le_refl _⟩⟩,hx⟩
theorem q2h {m:Mem} {s t:Sl} {l r:List Int} (hs:q03 m s l) (ht:q03 m t r):q0o Tryz.prog q22 [Sl.v s,Sl.v t] m (l=r):=by
 apply qlb
 have hsl:=hs.len
 have htl:=ht.len
 refine ⟨fun h=>retF (fun e=>?_) (Ext.refl _),fun h=>?_⟩
 ·subst e; simp at h; omega
 ·have hlen:l.length=r.length:=by simp at h; omega
  refine forI (n:=l.length) (hsl ▸ hs.lim) (fun k m'=>Ext m m'/\l.take k=r.take k) ⟨Ext.refl _,by simp⟩ ?_
  rintro k m1 I μ hk ⟨hx,he⟩ next
  refine ⟨fun h1=>?_,fun h1=>?_⟩
  ·simp only [decide_eq_true_eq] at h1
   obtain ⟨y,hy⟩:=q00 (l:=l) (k:=k) (by omega)
   obtain ⟨z,hz⟩:=q00 (l:=r) (k:=k) (by omega)
   refine ⟨by omega,by omega,y,by simpa using hx.gcell (hs.at' hy),by omega,by omega,z,by simpa using hx.gcell (ht.at' hz),fun h2=>retF (fun e=>?_) hx,fun h2=>next (by omega) _ ⟨hx,?_⟩⟩
   ·subst e; rw [hy] at hz; simp at hz h2; exact h2 hz
   ·simp at h2; rw [q06 hy,q06 hz,he,h2]
  ·simp only [decide_eq_false_iff_not] at h1
   rw [q0b (by omega),q0b (by omega)] at he
   exact retT he hx
def MarkR (k:Int) (pos:List (Nat × Nat)) (m:Mem) (v:Value) (m':Mem):Prop:=v=vi (k+pos.length)/\MkR m k pos m'
theorem Walk.rowsI {m:Mem} {b:Nat}:∀ {n o:Nat} {pos:List (Nat × Nat)},Walk m (.rows (.int .nil) n) b o pos->pos.length=n/\∀ k,k < n->pos[k]?=some (b,o+k)/\(∃ v,gcell m b (o+k)=some (vi v))/\Vc.froz m b (o+k)=false
 | 0,o,pos,h=>by cases h; exact ⟨rfl,by simp⟩
 | n+1,o,pos,h=>by
  cases h with
  | @succ _ _ _ _ p1 p2 he hr =>
   cases he with
   | int h hf hr' =>
    cases hr'
    obtain ⟨h1,h2⟩:=Walk.rowsI hr
    refine ⟨by simp [h1],fun k hk=>?_⟩
    cases k with
    | zero=>exact ⟨by simp,⟨_,h⟩,hf⟩
    | succ k =>
     have:=h2 k (by omega)
     simp only [Row.size] at this
     have e:o+(0+1)+k=o+(k+1):=by omega
     rw [e] at this
     exact ⟨by simpa using this.1,this.2⟩
theorem q20 {m:Mem} {s:Sl} {pos:List (Nat × Nat)} (h:Walk m (.rows (.int .nil) s.len) s.blk s.off pos) {k:Int} (hk:0<=k/\k+pos.length<=4611686018427387904):q08 Tryz.prog q1t [Sl.v s,vi k] m (MarkR k pos m):=by
 apply qi5
 obtain ⟨hpl,hp⟩:=Walk.rowsI h
 have hlt:=h.lt
 refine forSI (σ:=Int) (n:=s.len) (by omega) (fun j c m'=>c=k+j/\MkR m k (pos.take j) m') ⟨by simp,MkR.nil (Ext.refl _) _⟩ ?_
 rintro j c m1 I μ hj ⟨rfl,g⟩ next
 refine ⟨fun h1=>?_,fun h1=>?_⟩
 ·simp only [decide_eq_true_eq] at h1
  obtain ⟨q1,⟨v,q2⟩,q3⟩:=hp j (by omega)
  have ej:Int.toNat (j:Int)*1=j:=by omega
  have hb:=q5m q2
  have hcell:(gcell m1 s.blk (s.off+j)).isSome=true:=by
   by_cases hm:(s.blk,s.off+j) ∈ pos.take j
   ·obtain ⟨n,hn⟩:=g.int _ hm; rw [hn]; rfl
   ·rw [g.cell _ _ hb hm,q2]; rfl
  have tl:(pos.take j).length=j:=by simp; omega
  have e1:w64 (k+(j:Int)+1)=k+((j+1:Nat):Int):=by rw [q07 (by omega) (by omega)]; omega
  refine ⟨by omega,by omega,?_⟩
  rw [ej,e1]
  refine ⟨fun i hi=>?_,next (by omega) _ _ ⟨rfl,?_⟩⟩
  ·have:i=0:=by omega
   subst this
   exact ⟨hcell,by rw [Nat.add_zero,g.froz _ _ hb]; exact q3⟩
  ·rw [q06 q1]
   refine g.trans ?_
   rw [tl]; exact MkR.one hcell _
 ·simp only [decide_eq_false_iff_not] at h1
  have:j=s.len:=by omega
  subst this
  rw [q0b (by omega)] at g
  exact ⟨by rw [hpl],g⟩
end Go.Proofs.YtpggcodlaajceaaGreat
end
section
/- The laws' helpers: copies, and walks through them. -/
namespace Go.Vc
theorem Walk.inv_nil {m:Mem} {b o:Nat} {pos:List (Nat × Nat)} (h:Walk m (.row .nil) b o pos):pos=[]:=by cases h; rfl
theorem Walk.inv_int {m:Mem} {b o:Nat} {r:Row} {pos:List (Nat × Nat)} (h:Walk m (.row (.int r)) b o pos):∃ n p,gcell m b o=some (vi n)/\Vc.froz m b o=false/\pos=(b,o) :: p/\Walk m (.row r) b (o+1) p:=by
 cases h with
 | int h hf hr=>exact ⟨_,_,h,hf,rfl,hr⟩
theorem Walk.inv_sl {m:Mem} {b o:Nat} {e r:Row} {pos:List (Nat × Nat)} (h:Walk m (.row (.sl e r)) b o pos):∃ s p1 p2,gcell m b o=some (Sl.v s)/\s.len<=9223372036854775807/\Walk m (.rows e s.len) s.blk s.off p1/\pos=p1 ++ p2/\Walk m (.row r) b (o+1) p2:=by
 cases h with
 | sl h hl he hr=>exact ⟨_,_,_,h,hl,he,rfl,hr⟩
theorem Walk.split {m:Mem} {b:Nat} {e:Row}:∀ {n o:Nat} {pos:List (Nat × Nat)},Walk m (.rows e n) b o pos->∃ ps:List (List (Nat × Nat)),ps.length=n/\pos=ps.flatten/\∀ k p,ps[k]?=some p->Walk m (.row e) b (o+k*e.size) p
 | 0,o,pos,h=>by cases h; exact ⟨[],rfl,rfl,by simp⟩
 | n+1,o,pos,h=>by
  cases h with
  | @succ _ _ _ _ p1 p2 he hr =>
   obtain ⟨ps,h1,h2,h3⟩:=Walk.split hr
   refine ⟨p1 :: ps,by simp [h1],by simp [h2],fun k p hk=>?_⟩
   cases k with
   | zero=>simp at hk; subst hk; simpa using he
   | succ k =>
    have:=h3 k p (by simpa using hk)
    have e1:o+e.size+k*e.size=o+(k+1)*e.size:=by rw [Nat.add_mul]; omega
    rw [e1] at this; exact this
theorem Walk.join {m:Mem} {b:Nat} {e:Row} {P:Nat × Nat->Prop} {c:Nat}:∀ {n o:Nat},(∀ k,k < n->∃ p,Walk m (.row e) b (o+k*e.size) p/\(∀ q ∈ p,P q)/\p.length<=c)->∃ pos,Walk m (.rows e n) b o pos/\(∀ q ∈ pos,P q)/\pos.length<=n*c
 | 0,o,_=>⟨[],.zero _ _ _,by simp,by simp⟩
 | n+1,o,h=>by
  obtain ⟨p,h1,h2,h3⟩:=h 0 (by omega)
  obtain ⟨ps,g1,g2,g3⟩:=Walk.join (n:=n) (o:=o+e.size) (fun k hk=>by
   obtain ⟨p,h1,h2,h3⟩:=h (k+1) (by omega)
   have e1:o+(k+1)*e.size=o+e.size+k*e.size:=by rw [Nat.add_mul]; omega
   rw [e1] at h1; exact ⟨p,h1,h2,h3⟩)
  refine ⟨p ++ ps,.succ (by simpa using h1) g1,fun q hq=>?_,?_⟩
  ·rcases List.mem_append.1 hq with hq | hq
   ·exact h2 q hq
   ·exact g2 q hq
  ·rw [List.length_append,Nat.add_mul]; omega
def Kp (B:Nat) (m m':Mem):Prop:=∀ b,B<=b->b < m.size->m'[b]?=m[b]?
theorem Kp.ext {B:Nat} {m m':Mem} (h:Ext m m'):Kp B m m':=fun b _ hb=>h.same b hb
theorem Kp.box {B:Nat} {m:Mem} {nb:Nat} (h:nb < B) (o:Nat) (l:List Ce):Kp B m (scells m nb o l):=fun b hb _=>q0n _ _ _ _ (by omega)
theorem Own.keep {m0 m m':Mem} {e sz:Nat} {s:Sl} {l:List Ce} (h:Own m0 m e sz s l) (hk:Kp m0.size m m'):Own m0 m' e sz s l:=by
 rcases h.at' with h1 | ⟨b,c,tail,h1,h2,h3,h4,h5⟩
 ·exact ⟨h.len,Or.inl h1⟩
 ·exact ⟨h.len,Or.inr ⟨b,c,tail,h1,h2,h3.congr (hk b h2 h3.lt),h4,h5⟩⟩
def CpS {α:Type} (e sz:Nat) (R:List Ce->α->Prop) (m0 m:Mem) (s:Sl) (l:List α):Prop:=∃ css,Own m0 m e sz s css.flatten/\RowsOf sz R css l
theorem CpS.mono {α:Type} {e sz:Nat} {R R':List Ce->α->Prop} {m0 m m1 m':Mem} {s:Sl} {l:List α} (h:CpS e sz R m0 m s l) (hR:∀ cs x,R cs x->R' cs x) (hk:Kp m0.size m m') (hb:m1.size<=m0.size):CpS e sz R' m1 m' s l:=by
 obtain ⟨css,h1,h2⟩:=h
 exact ⟨css,(h1.keep hk).base hb,h2.len,h2.size,fun j cs x hj hx=>hR _ _ (h2.each j cs x hj hx)⟩
theorem CpS.len {α:Type} {e sz:Nat} {R:List Ce->α->Prop} {m0 m:Mem} {s:Sl} {l:List α} (h:CpS e (sz+1) R m0 m s l):s.len=l.length:=by
 obtain ⟨css,h1,h2⟩:=h
 have:=h1.len
 rw [q0g h2.size,h2.len] at this
 exact (Nat.eq_of_mul_eq_mul_right (Nat.succ_pos sz) this).symm
theorem CpS.read {α:Type} {e sz:Nat} {R R':List Ce->α->Prop} {m0 m:Mem} {s:Sl} {l:List α} (h:CpS e (sz+1) R m0 m s l) (hR:∀ cs x,x ∈ l->R cs x->R' cs x) (hl:l.length<=1048576):SlOf m (sz+1) R' s l:=by
 have hlen:=h.len
 obtain ⟨css,h1,h2⟩:=h
 refine ⟨hlen,?_,by omega,fun k x hk=>?_⟩
 ·rcases h1.at' with e1 | ⟨b,c,tail,e1,_,_,_,e5⟩
  ·rw [e1]; simp
  ·rw [e1]; simpa using e5
 ·have hlt:k < l.length:=(List.getElem?_eq_some_iff.1 hk).1
  obtain ⟨cs,hcs⟩:∃ cs,css[k]?=some cs:=⟨css[k]'(by rw [h2.len]; exact hlt),by simp⟩
  refine ⟨cs,hR cs x (List.mem_of_getElem? hk) (h2.each k cs x hcs hk),fun i c hc=>?_⟩
  have:=h1.row (k*(sz+1)+i) c (q1z h2.size hcs hc)
  rwa [← Nat.add_assoc] at this
theorem CpS.walk {α:Type} {e sz:Nat} {R:List Ce->α->Prop} {m0 m:Mem} {s:Sl} {l:List α} (h:CpS e (sz+1) R m0 m s l) {r:Row} (hr:r.size=sz+1) {c:Nat}
  (hR:∀ cs x,x ∈ l->R cs x->∀ b o,rowIs m b o cs->(∀ i,i < cs.length->Vc.froz m b (o+i)=false)->m0.size<=b->∃ pos,Walk m (.row r) b o pos/\(∀ p ∈ pos,m0.size<=p.1)/\pos.length<=c) :
  ∃ pos,Walk m (.rows r s.len) s.blk s.off pos/\(∀ p ∈ pos,m0.size<=p.1)/\pos.length<=l.length*c:=by
 have hlen:=h.len
 obtain ⟨css,h1,h2⟩:=h
 rcases h1.at' with e1 | ⟨b,c',tail,e1,e2,e3,_,_⟩
 ·subst e1
  exact ⟨[],.zero _ _ _,by simp,by simp⟩
 ·rw [hlen]
  refine Walk.join fun k hk=>?_
  obtain ⟨x,hx⟩:∃ x,l[k]?=some x:=⟨l[k],by simp [hk]⟩
  obtain ⟨cs,hcs⟩:∃ cs,css[k]?=some cs:=⟨css[k]'(by rw [h2.len]; exact hk),by simp⟩
  have hb:s.blk=b/\s.off=0:=by rw [e1]; exact ⟨rfl,rfl⟩
  rw [hb.1,hb.2,hr]
  refine hR cs x (List.mem_of_getElem? hx) (h2.each k cs x hcs hx) b _ (fun i c hc=>?_) (fun i _=>e3.froz _) e2
  have:=h1.row (k*(sz+1)+i) c (q1z h2.size hcs hc)
  rw [hb.1,hb.2,← Nat.add_assoc] at this
  exact this
abbrev CpI (m0 m:Mem) (s:Sl) (l:List Int):Prop:=Own m0 m 3 1 s (l.map Ce.i)
theorem CpI.slen {m0 m:Mem} {s:Sl} {l:List Int} (h:CpI m0 m s l):s.len=l.length:=by have:=h.len; simp at this; omega
theorem CpI.walk {m0 m:Mem} {s:Sl} {l:List Int} (h:CpI m0 m s l) (hl:l.length<=1048576):∃ pos,Walk m (.rows (.int .nil) s.len) s.blk s.off pos/\(∀ p ∈ pos,m0.size<=p.1)/\pos.length<=1048576:=by
 have hlen:l.length=s.len:=by have:=h.len; simpa using this
 rcases h.at' with e1 | ⟨b,c',tail,e1,e2,e3,_,_⟩
 ·subst e1
  exact ⟨[],.zero _ _ _,by simp,by simp⟩
 ·obtain ⟨pos,h1,h2,h3⟩:=Walk.join (m:=m) (b:=s.blk) (e:=.int .nil) (P:=fun p=>m0.size<=p.1) (c:=1) (n:=s.len) (o:=s.off) fun k hk=>by
   obtain ⟨x,hx⟩:∃ x,l[k]?=some x:=⟨l[k],by simp [hlen,hk]⟩
   have hb:s.blk=b/\s.off=0:=by rw [e1]; exact ⟨rfl,rfl⟩
   have hg:=h.row k (.i x) (by simp [hx])
   have e4:k*(Row.int .nil).size=k:=by simp [Row.size]
   rw [e4]
   exact ⟨[(s.blk,s.off+k)],.int (n:=x) hg (by rw [hb.1]; exact e3.froz _) (.nil _ _),by simp [hb.1,e2],by simp⟩
  exact ⟨pos,h1,h2,by omega⟩
theorem qqa (zs:List Ce) (n:Nat):zrow zs (n+1)=zs ++ zrow zs n:=by simp [zrow,List.replicate_succ]
theorem qad (zs:List Ce) (n:Nat):(zrow zs n).length=n*zs.length:=by
 induction n with
 | zero=>simp [zrow]
 | succ n ih=>rw [qqa,List.length_append,ih,Nat.add_mul]; omega
theorem fillRow {css:List (List Ce)} {zs cs:List Ce} {n:Nat} (hs:∀ c ∈ css,c.length=zs.length) (hc:cs.length=zs.length) (hn:css.length < n) :
  setL (css.flatten ++ zrow zs (n - css.length)) (css.length*zs.length) cs=(css ++ [cs]).flatten ++ zrow zs (n - (css.length+1)):=by
 have e:n - css.length=(n - (css.length+1))+1:=by omega
 have hl:css.flatten.length=css.length*zs.length:=q0g hs
 rw [e,qqa,Go.Proofs.YtpggcodlaajceaaGreat.setL_app_right _ _ _ _ (by omega),hl,Nat.sub_self]
 have h1:=qfm [] cs (zs ++ zrow zs (n - (css.length+1))) (by simp; omega)
 simp only [List.nil_append,List.length_nil] at h1
 rw [h1,hc,List.drop_append_of_le_length (Nat.le_refl _)]
 simp
end Go.Vc
end
