/- Part of a proof, joined by a program: Ms1 Ms2 Mv2 Mut Mut2 Ms3. -/
import Derived.Test.YtpggcodlaajceaaGreatU06
set_option linter.unusedVariables false
set_option linter.unusedSimpArgs false
namespace Go.Proofs.YtpggcodlaajceaaGreat
open Go.Vc
section
theorem _root_.Go.Vc.SlOf.rows {m:Mem} {s:Sl} {l:List Int} (h:SlOf m 1 IntR s l):rowIs m s.blk s.off (l.map Ce.i):=fun i c hc=>by
 rw [List.getElem?_map] at hc
 obtain ⟨x,hx,rfl⟩:=Option.map_eq_some_iff.1 hc
 have:=q03.at' h hx
 rw [Nat.mul_one] at this
 exact this
def GivesI (f:Nat) (args:List Value) (m:Mem) (l:List Int):Prop:=q08 Tryz.prog f args m fun v m'=>∃ s,v=Sl.v s/\Own m m' ty_int 1 s (l.map Ce.i)/\Ext m m'
theorem GivesI.then {f:Nat} {args:List Value} {m:Mem} {l:List Int} {K:Value->Mem->Prop} (h:GivesI f args m l) (hl:l.length<=1000000000) (hk:∀ s m',Own m m' ty_int 1 s (l.map Ce.i)->q03 m' s l->Ext m m'->K (Sl.v s) m'):q08 Tryz.prog f args m K :=
 h.mono fun _ _ ⟨s,he,ho,hx⟩=>he ▸ hk s _ ho (q03.ofOwn ho (by omega)) hx
theorem GivesI.thenS {f:Nat} {args:List Value} {m:Mem} {l:List Int} {K:Value->Mem->Prop} {bs:List Nat} (h:GivesI f args m l) (hl:l.length<=1000000000) (hb:∀ b ∈ bs,b < m.size) (hk:∀ s m',Own m m' ty_int 1 s (l.map Ce.i)->q03 m' s l->Ext m m'->K (Sl.v s) m'):q08 Tryz.prog f args m fun v m'=>Sam bs m m'/\K v m' :=
 h.mono fun _ _ ⟨s,he,ho,hx⟩=>⟨hx.sam hb,he ▸ hk s _ ho (q03.ofOwn ho (by omega)) hx⟩
theorem q1b (w:Int) (m:Mem):q0o Tryz.prog q13 [vi w] m (1000<=w):=by
 apply qg1
 exact retB (by simp) (Ext.refl _)
theorem q2w {m:Mem} {hp:Sl} {h:List Cell} (hh:q0h m hp h) {w:Int} (hw:-9223372036854775808<=w/\w<=9223372036854775807):q0o Tryz.prog q1w [Sl.v hp,vi w] m (live h w):=by
 apply qky
 have hl:=hh.len
 have hlim:=hh.lim
 have e1:w64 ((hp.len:Int) - 1)=(hp.len:Int) - 1:=q07 (by omega) (by omega)
 rw [e1]
 have e2:w64 (w - 1000)=w - 1000 \/ (w < 1000/\¬ (0<=w64 (w - 1000)/\w64 (w - 1000)<=(hp.len:Int) - 1)) \/ (w < 1000/\w64 (w - 1000)=w - 1000+18446744073709551616):=by
  rcases Classical.em (-9223372036854775808<=w - 1000) with h1 | h1
  ·exact Or.inl (q07 h1 (by omega))
  ·refine Or.inr (Or.inr ⟨by omega,?_⟩)
   simp only [w64,IntKind.wrap,IntKind.signed,IntKind.bits]
   simp
   omega
 refine (q0e _ _ _ _).then fun b m1 hb h1=>⟨b,rfl,fun hbt=>?_,fun hbf=>?_⟩
 ·refine (q1b _ _).then fun b2 m2 hb2 h2=>⟨b2,rfl,fun hb2t=>?_,fun hb2f=>?_⟩
  ·have h1000:=hb2.1 hb2t
   have e3:w64 (w - 1000)=w - 1000:=q07 (by omega) (by omega)
   rw [e3] at hb ⊢
   have hr:=hb.1 hbt
   obtain ⟨c,hc⟩:=q00 (l:=h) (k:=(w - 1000).toNat) (by omega)
   obtain ⟨f,hf,g0,_⟩:=(q0h.ext (h1.trans h2) hh).at' hc
   refine ⟨by omega,by omega,c.count,g0,retB ?_ (h1.trans h2)⟩
   simp only [gt_iff_lt,decide_eq_true_eq]
   refine ⟨fun hp=>⟨h1000,c,hc,hp⟩,fun ⟨_,c',hc',hp⟩=>?_⟩
   unfold ix at hc'
   rw [hc] at hc'; simp at hc'; subst hc'; exact hp
  ·exact retF (fun hlv=>fb hb2 hb2f hlv.1) (h1.trans h2)
 ·refine retF (fun ⟨h1000,c,hc,_⟩=>fb hb hbf ?_) h1
  have:=q04 hc
  unfold ix at this
  rw [q07 (by omega) (by omega)]
  omega
theorem qp3 (op:Int) (m:Mem):q0o Tryz.prog qc0 [vi op] m (isCall op):=by
 apply qlo
 refine ⟨fun h=>retT ?_ (Ext.refl _),fun h=>⟨fun h2=>retT ?_ (Ext.refl _),fun h2=>retB ?_ (Ext.refl _)⟩⟩ <;> simp [isCall] at*<;> omega
theorem qn4 {im:Image} {x:Instr} {q:Proc} (hq:im.procs[x.num.toNat]?=some q) (k:Nat):lentIn im x k=true ↔ (k:Int) ∈ q.lent:=by
 simp [lentIn,q0y,hq,List.any_eq_true]
def CallOk (im:Image) (x:Instr):Prop:=(x.op=9 \/ x.op=24)->0<=x.num/\∃ q,im.procs[x.num.toNat]?=some q
theorem InstrOk.call {im:Image} {p:Proc} {k:Nat} {x:Instr} (h:InstrOk im p k x):CallOk im x:=fun e=>by
 have hOp:=h.op
 unfold OpOk at hOp
 rw [if_neg (by omega),if_neg (by omega),if_neg (by omega),if_neg (by omega),if_pos e] at hOp
 obtain ⟨q,h0,h1,_⟩:=hOp
 exact ⟨h0,q,h1⟩
theorem q9l {m:Mem} {d p:Sl} {im:Image} (h:ImageR m d p im) {x:Instr} (hc:CallOk im x) (a j:Sl) (k:Nat) :
  q0o Tryz.prog q5f [.agg #[Sl.v d,Sl.v p],.agg #[vi x.op,vi x.dst,vi x.num,vi x.into,Sl.v a,Sl.v j],vi k] m ((x.op=9 \/ x.op=24)/\lentIn im x k=true):=by
 apply qjp
 simp -zeta only [q0a,q09,rI,rS,rB,cI,cB,cS,dI,dB,dS,gk,rg]
 intro m1 m2
 have hx2:Ext m m2:=((Ext.refl m).pushed _).pushed _
 have hl:∀ b ∈ [m1.size,m.size],b < m2.size:=by simp [m2,m1]; omega
 have hpl:=h.procs.len
 clear_value m2
 have key:∀ e:x.op=9 \/ x.op=24,(0:Int)<=x.num/\x.num < (p.len:Int)/\∃ v22:Sl,gcell m2 p.blk (p.off+Int.toNat x.num*5+1)=some (Sl.v v22) /\
   q08 Tryz.prog q61 [Sl.v v22,vi k] m2 fun r m1_2=>Sam [m1.size,m.size] m2 m1_2/\∃ r24:Bool,r=vb r24/\∃ b:Bool,vb r24=.bool b/\(b=true ↔ ((x.op=9 \/ x.op=24)/\lentIn im x k=true))/\Ext m m1_2:=fun e=>by
  obtain ⟨h0,q,hq⟩:=hc e
  obtain ⟨a',l',c',ha,hl',hc',g0,g1,g2,g3,g4⟩:=(h.ext hx2).procs.at' hq
  have:=q04 hq
  refine ⟨h0,by omega,l',g1,(qj2 hl' _).thenS (Ext.refl _) hl fun b m3 hb h3 _=>⟨b,rfl,retB ?_ (hx2.trans h3)⟩⟩
  rw [hb,qn4 hq]
  exact ⟨fun h=>⟨e,h⟩,fun h=>h.2⟩
 refine ⟨fun h9=>key (Or.inl (by simpa using h9)),fun h9=>⟨fun h24=>key (Or.inr (by simpa using h24)),fun h24=>retF (fun ⟨e,_⟩=>?_) hx2⟩⟩
 simp at h9 h24; omega
theorem qng (op:Int) (m:Mem):q0o Tryz.prog q90 [vi op] m (op=6 \/ op=9 \/ op=10 \/ op=11):=by
 apply qi3
 refine ⟨fun h=>retT ?_ (Ext.refl _),fun h=>⟨fun h2=>retT ?_ (Ext.refl _),fun h2=>⟨fun h3=>retT ?_ (Ext.refl _),fun h3=>retB ?_ (Ext.refl _)⟩⟩⟩ <;> simp at*<;> omega
def q2k (im:Image) (x:Instr) (n:Nat):List Int:=unlent im x 0 (x.args.take n)
theorem qbs (im:Image) (x:Instr):∀ (l r:List Int) (k:Nat),unlent im x k (l ++ r)=unlent im x k l ++ unlent im x (k+l.length) r
 | [],r,k=>by simp [unlent]
 | a :: l,r,k=>by
  have:=qbs im x l r (k+1)
  simp only [List.cons_append,unlent,this,List.length_cons]
  have e:k+(l.length+1)=k+1+l.length:=by omega
  rw [e]
  split <;> simp
theorem q9g (im:Image) (x:Instr):∀ (l:List Int) (k:Nat),(unlent im x k l).length<=l.length
 | [],k=>Nat.le_refl _
 | a :: l,k=>by
  have:=q9g im x l (k+1)
  simp only [unlent]
  split <;> simp <;> omega
theorem qit (im:Image) (x:Instr):(taken im x).length<=x.args.length:=by
 unfold taken
 split
 ·exact Nat.le_refl _
 split
 ·simp; omega
 split
 ·exact q9g _ _ _ _
 ·simp
theorem Ext.sam2 {m0 a b:Mem} (ha:Ext m0 a) (hb:Ext m0 b) {l:List Nat} (hl:∀ x ∈ l,x < m0.size):Sam l a b:=fun x hx=>by rw [ha.same x (hl x hx),hb.same x (hl x hx)]
theorem q54 {m0 m:Mem} {s:Sl} {l:List Int} {v:Int} {K:Sl->Mem->Prop} (ho:Own m0 m ty_int 1 s (l.map Ce.i)) (hx:Ext m0 m) (hl:l.length < 1000000000)
  (hk:∀ r m',Own m0 m' ty_int 1 r ((l ++ [v]).map Ce.i)->Ext m0 m'->K r m') :
  appC (m.push (.cells (vals [.i v]) ty_int)) ty_int [.i (0:Int)] 8 s (Sl.mk m.size 0 1 1) K:=by
 have hlen:s.len=l.length:=by have:=ho.len; simp at this; omega
 refine Own.append (zs:=[.i 0]) (new:=[.i v]) (ho.ext (Ext.push _ _)) (hx.pushed _) rfl (Blk.push m _ _).row (by simp; omega) fun r m' h1 h2 h3 h4 h5 h6=>?_
 exact hk r m' (by simpa using h1) h2
theorem qoj {m:Mem} {d p:Sl} {im:Image} (h:ImageR m d p im) {x:Instr} (hc:CallOk im x) {a j:Sl} (ha:q03 m a x.args) (hsm:x.args.length<=1000000) (h16:(x.op=16 \/ x.op=17)->1<=x.args.length) :
  GivesI q6v [.agg #[Sl.v d,Sl.v p],.agg #[vi x.op,vi x.dst,vi x.num,vi x.into,Sl.v a,Sl.v j]] m (taken im x):=by
 apply qii
 simp -zeta only [q0a,q09,rI,rS,rB,cI,cB,cS,dI,dB,dS,gk,rg]
 intro m1 m2 m3
 have hx2:Ext m m2:=((Ext.refl m).pushed _).pushed _
 have s2:m2.size=m.size+2:=by simp [m2,m1]
 have h3:Ext m2 m3:=(Ext.refl m2).pushed _
 have ho:Own m2 m3 ty_int 1 (.mk m2.size 0 0 0) []:=Own.new (Ext.refl m2) ty_int 1 [] 0 (by simp)
 have s1:m1.size=m.size+1:=by simp [m1]
 have hal:=ha.len
 have hl:∀ b ∈ [m1.size,m.size],b < m2.size:=fun b hb=>by simp at hb; omega
 clear_value m3
 clear_value m2
 have hbase:∀ {m' s l},Own m2 m' ty_int 1 s l->Own m m' ty_int 1 s l:=fun ho=>ho.base hx2.size
 refine ⟨fun v m'=>Ext m2 m'/\Own m2 m' ty_int 1 (.mk m2.size 0 0 0) []/\(v=true ↔ (x.op=15 \/ x.op=6 \/ x.op=10 \/ x.op=11 \/ x.op=18 \/ x.op=23 \/ x.op=9 \/ x.op=24)),?_,?_⟩
 ·refine (qng _ _).thenS h3 hl fun b m4 hb h4 hx4=>⟨b,rfl,fun hbt=>⟨hx4,ho.ext h4,by have:=hb.1 hbt; simp; omega⟩,fun hbf=>?_⟩
  have hn:=fb hb hbf
  refine ⟨fun e=>⟨hx4,ho.ext h4,by simp at e; simp; omega⟩,fun e1=>⟨fun e=>⟨hx4,ho.ext h4,by simp at e; simp; omega⟩,fun e2=>⟨fun e=>⟨hx4,ho.ext h4,by simp at e; simp; omega⟩,fun e3=>⟨hx4,ho.ext h4,by simp at e1 e2 e3; simp; omega⟩⟩⟩⟩
 ·rintro v m4 ⟨h4,ho4,hv⟩
  refine ⟨fun hvt=>?_,fun hvf=>?_⟩
  ·have hT:=hv.1 hvt
   refine forSI (n:=x.args.length) (by omega) (fun k s m'=>Ext m2 m'/\Own m2 m' ty_int 1 s ((if x.op=9 \/ x.op=24 then q2k im x k else x.args.take k).map Ce.i)) ⟨h4,by simpa [q2k,unlent] using ho4⟩ ?_
   rintro k s m5 I μ hk ⟨h5,ho5⟩ next
   have hx5:=hx2.trans h5
   refine ⟨fun hlt=>?_,fun hge=>?_⟩
   ·simp only [decide_eq_true_eq] at hlt
    obtain ⟨y,hy⟩:=q00 (l:=x.args) (k:=k) (by omega)
    have hun:q2k im x (k+1)=q2k im x k ++ unlent im x k [y]:=by
     unfold q2k
     rw [q06 hy,qbs]
     simp; congr 2; omega
    refine (q9l (h.ext hx5) hc a j k).thenS h5 hl fun b m6 hb h6 h62=>⟨b,rfl,fun hbt=>?_,fun hbf=>?_⟩
    ·have hnl:=nb hb hbt
     refine ⟨by omega,by omega,y,by simpa using (ha.ext (hx2.trans h62)).at' hy,?_⟩
     intro m7
     have hlen7:(if x.op=9 \/ x.op=24 then q2k im x k else x.args.take k).length<=k:=by
      split
      ·refine Nat.le_trans (q9g _ _ _ _) ?_; simp; omega
      ·simp; omega
     refine q54 (ho5.ext h6) h62 (by omega) fun r m8 q1 q2=>?_
     refine ⟨Ext.sam2 (h62.pushed _) q2 hl,next (by omega) _ _ ⟨q2,?_⟩⟩
     by_cases e:x.op=9 \/ x.op=24
     ·rw [if_pos e] at q1 ⊢
      rw [hun]
      have:unlent im x k [y]=[y]:=by
       simp only [unlent]; rw [if_neg (fun hl=>hnl ⟨e,hl⟩)]
      rw [this]; exact q1
     ·rw [if_neg e] at q1 ⊢
      rw [q06 hy]; exact q1
    ·have hnl:=yb hb hbf
     refine next (by omega) _ _ ⟨h62,?_⟩
     have ho6:=ho5.ext h6
     rw [if_pos hnl.1] at ho6 ⊢
     rw [hun]
     have:unlent im x k [y]=[]:=by
      simp only [unlent]; rw [if_pos hnl.2]
     rw [this,List.append_nil]; exact ho6
   ·simp only [decide_eq_false_iff_not] at hge
    refine ⟨s,rfl,?_,hx5⟩
    have e2:taken im x=if x.op=9 \/ x.op=24 then q2k im x k else x.args.take k:=by
     have e3:x.args.take k=x.args:=q0b (by omega)
     unfold taken q2k
     rw [e3]
     by_cases e:x.op=9 \/ x.op=24
     ·rw [if_neg (by omega),if_neg (by omega),if_pos e,if_pos e]
     ·rw [if_pos (by omega),if_neg e]
    rw [e2]; exact hbase ho5
  ·have hT:¬ (x.op=15 \/ x.op=6 \/ x.op=10 \/ x.op=11 \/ x.op=18 \/ x.op=23 \/ x.op=9 \/ x.op=24):=fun e=>by have:=hv.2 e; rw [hvf] at this; simp at this
   have hx4:=hx2.trans h4
   have one:∀ e:x.op=16 \/ x.op=17,(0:Int)<=(0:Int)/\(0:Int) < (a.len:Int)/\∃ v63:Int,gcell m4 a.blk (a.off+Int.toNat (0:Int)*1)=some (vi v63) /\
     appC (m4.push (.cells (vals [.i v63]) 3)) 3 [.i (0:Int)] 8 (Sl.mk m2.size 0 0 0) (Sl.mk m4.size 0 1 1) fun r65 m1_10=>Sam [m1.size,m.size] (m4.push (.cells (vals [.i v63]) 3)) m1_10/\∃ s,Sl.v r65=Sl.v s/\Own m m1_10 ty_int 1 s ((taken im x).map Ce.i)/\Ext m m1_10:=fun e=>by
    have h1:=h16 e
    obtain ⟨y,hy⟩:=q00 (l:=x.args) (k:=0) (by omega)
    refine ⟨by omega,by omega,y,by simpa using (ha.ext hx4).at' hy,q54 (l:=[]) ho4 h4 (by simp) fun r m8 q1 q2=>⟨Ext.sam2 (h4.pushed _) q2 hl,r,rfl,?_,hx2.trans q2⟩⟩
    have e2:taken im x=[y]:=by
     unfold taken
     rw [if_neg (by omega),if_pos e]
     cases hargs:x.args with
     | nil=>rw [hargs] at hy; simp at hy
     | cons z l=>rw [hargs] at hy; simp at hy; subst hy; rfl
    rw [e2]; exact hbase q1
   refine ⟨fun e=>one (Or.inl (by simpa using e)),fun e1=>⟨fun e=>one (Or.inr (by simpa using e)),fun e2=>⟨_,rfl,?_,hx4⟩⟩⟩
   have e3:taken im x=[]:=by
    simp at e1 e2
    unfold taken
    rw [if_neg (by omega),if_neg (by omega),if_neg (by omega)]
   rw [e3]; exact hbase ho4
theorem q2a {m:Mem} {s:Sl} {l:List Int} (hl:q03 m s l) (hsm:l.length<=1000000000):GivesI q15 [Sl.v s] m l:=by
 apply qhr
 intro m1
 have h1:Ext m m1:=(Ext.refl m).pushed _
 have ho:Own m m1 ty_int 1 (.mk m.size 0 0 0) []:=Own.new (Ext.refl m) ty_int 1 [] 0 (by simp)
 have hll:=hl.len
 refine Own.append (zs:=[.i 0]) (new:=l.map Ce.i) ho h1 (by simp [hll]) (hl.ext h1).rows (by simp; omega) fun r m' h1 h2 h3 h4 h5 h6=>⟨r,rfl,by simpa using h1,h2⟩
theorem qpm {m:Mem} {s t:Sl} {l r:List Int} (hl:q03 m s l) (hr:q03 m t r) (hsm:l.length+r.length<=1000000000):GivesI qbr [Sl.v s,Sl.v t] m (l ++ r):=by
 apply qkk
 refine (q2a hl (by omega)).then (by omega) fun q m1 h1 h2 h3=>⟨q,rfl,?_⟩
 have hrl:=hr.len
 have hql:=h2.len
 refine Own.append (zs:=[.i 0]) (new:=r.map Ce.i) h1 h3 (by simp [hrl]) (hr.ext h3).rows (by omega) fun u m' h4 h5 h6 h7 h8 h9=>⟨u,rfl,by simpa using h4,h5⟩
theorem q4x {m:Mem} {s:Sl} {l:List Int} (hl:q03 m s l):q0o Tryz.prog q3v [Sl.v s] m (Zero l):=by
 apply qju
 have hll:=hl.len
 refine forI (n:=l.length) (hll ▸ hl.lim) (fun k m'=>Ext m m'/\∀ y ∈ l.take k,y=0) ⟨Ext.refl _,by simp⟩ ?_
 rintro k m1 I μ hk ⟨hx,hn⟩ next
 refine ⟨fun h=>?_,fun h=>retT (q0w (by simp at h; omega) hn) hx⟩
 simp only [decide_eq_true_eq] at h
 obtain ⟨x,hx1⟩:=q00 (l:=l) (k:=k) (by omega)
 refine ⟨by omega,by omega,x,by simpa using hx.gcell (hl.at' hx1),fun h2=>retF (fun hz=>?_) hx,fun h2=>next (by omega) _ ⟨hx,q0f hx1 hn (by simpa using h2)⟩⟩
 have:=hz x (q05 hx1)
 simp at h2; omega
theorem qft {m:Mem} {s:Sl} {l:List Int} (hl:q03 m s l):q0o Tryz.prog q63 [Sl.v s] m (∀ o ∈ l,0<=o):=by
 apply qdz
 have hll:=hl.len
 refine forI (n:=l.length) (hll ▸ hl.lim) (fun k m'=>Ext m m'/\∀ y ∈ l.take k,0<=y) ⟨Ext.refl _,by simp⟩ ?_
 rintro k m1 I μ hk ⟨hx,hn⟩ next
 refine ⟨fun h=>?_,fun h=>retT (q0w (by simp at h; omega) hn) hx⟩
 simp only [decide_eq_true_eq] at h
 obtain ⟨x,hx1⟩:=q00 (l:=l) (k:=k) (by omega)
 refine ⟨by omega,by omega,x,by simpa using hx.gcell (hl.at' hx1),fun h2=>retF (fun hz=>?_) hx,fun h2=>next (by omega) _ ⟨hx,q0f hx1 hn (by simpa using h2)⟩⟩
 have:=hz x (q05 hx1)
 simp at h2; omega
theorem qn3 {m:Mem} {s t:Sl} {l r:List Int} (hl:q03 m s l) (hr:q03 m t r):q0o Tryz.prog q9k [Sl.v s,Sl.v t] m (l=r):=by
 apply qi2
 have hll:=hl.len
 have hrl:=hr.len
 refine ⟨fun h=>retF (fun e=>by subst e; simp at h; omega) (Ext.refl _),fun h=>?_⟩
 simp at h
 refine forI (n:=l.length) (hll ▸ hl.lim) (fun k m'=>Ext m m'/\l.take k=r.take k) ⟨Ext.refl _,by simp⟩ ?_
 rintro k m1 I μ hk ⟨hx,hn⟩ next
 refine ⟨fun h=>?_,fun h=>retT (by simp at h; rwa [q0b (by omega),q0b (by omega)] at hn) hx⟩
 simp only [decide_eq_true_eq] at h
 obtain ⟨x,hx1⟩:=q00 (l:=l) (k:=k) (by omega)
 obtain ⟨y,hy1⟩:=q00 (l:=r) (k:=k) (by omega)
 refine ⟨by omega,by omega,x,by simpa using hx.gcell (hl.at' hx1),by omega,by omega,y,by simpa using hx.gcell (hr.at' hy1),fun h2=>retF (fun e=>?_) hx,fun h2=>next (by omega) _ ⟨hx,?_⟩⟩
 ·subst e; rw [hx1] at hy1; simp at hy1; simp at h2; exact h2 hy1
 ·rw [q06 hx1,q06 hy1,hn]; simp at h2; rw [h2]
abbrev fv (f:Frame) (r o h:Sl):Value:=.agg #[vi f.proc,vi f.pc,vi f.dst,Sl.v r,Sl.v o,Sl.v h]
abbrev xv (x:Instr) (a j:Sl):Value:=.agg #[vi x.op,vi x.dst,vi x.num,vi x.into,Sl.v a,Sl.v j]
theorem qie {m:Mem} {f:Frame} {r o e:Sl} (hr:q03 m r f.regs) {x:Instr} {a j:Sl} (ha:q03 m a x.args) (hin:∀ y ∈ x.args,0<=y/\y < f.regs.length) :
  q0o Tryz.prog q7e [fv f r o e,xv x a j] m (∀ y ∈ x.args,at' f.regs y < 1000):=by
 apply qf7
 simp -zeta only [q0a,q09,rI,rS,rB,cI,cB,cS,dI,dB,dS,gk,rg]
 intro m1 m2
 have hx2:Ext m m2:=((Ext.refl m).pushed _).pushed _
 have hl:∀ b ∈ [m1.size,m.size],b < m2.size:=by simp [m2,m1]; omega
 have hal:=ha.len
 have hrl:=hr.len
 clear_value m2
 refine forI (n:=x.args.length) (hal ▸ ha.lim) (fun k m'=>Ext m2 m'/\∀ y ∈ x.args.take k,at' f.regs y < 1000) ⟨Ext.refl _,by simp⟩ ?_
 rintro k m3 I μ hk ⟨hx,hn⟩ next
 have hx3:=hx2.trans hx
 refine ⟨fun h=>?_,fun h=>retT (q0w (by simp at h; omega) hn) hx3⟩
 simp only [decide_eq_true_eq] at h
 obtain ⟨y,hy⟩:=q00 (l:=x.args) (k:=k) (by omega)
 have hyr:=hin y (q05 hy)
 refine ⟨by omega,by omega,y,by simpa using hx3.gcell (ha.at' hy),hyr.1,by omega,at' f.regs y,by simpa using hx3.gcell (hr.atI hyr.1 hyr.2),?_⟩
 refine (q1b _ _).thenS hx hl fun b m4 hb h4 h42=>⟨b,rfl,fun hbt=>retF (fun hz=>?_) (hx2.trans h42),fun hbf=>next (by omega) _ ⟨h42,q0f hy hn ?_⟩⟩
 ·have:=hz y (q05 hy); have:=hb.1 hbt; omega
 ·have:=fb hb hbf; omega
theorem q62 (l r:List Int):ptrs (l ++ r)=ptrs l ++ ptrs r:=by simp [ptrs]
theorem q51 (l:List Int):(ptrs l).length<=l.length:=List.length_filter_le _ _
theorem q6f {m:Mem} {s:Sl} {l:List Int} (hl:q03 m s l) (hsm:l.length<=100000000):GivesI q4a [Sl.v s] m (ptrs l):=by
 apply qey
 intro m1
 have h1:Ext m m1:=(Ext.refl m).pushed _
 have ho:Own m m1 ty_int 1 (.mk m.size 0 0 0) []:=Own.new (Ext.refl m) ty_int 1 [] 0 (by simp)
 have hll:=hl.len
 clear_value m1
 refine forSI (n:=l.length) (by omega) (fun k s m'=>Ext m m'/\Own m m' ty_int 1 s ((ptrs (l.take k)).map Ce.i)) ⟨h1,by simpa [ptrs] using ho⟩ ?_
 rintro k s m2 I μ hk ⟨hx,ho2⟩ next
 refine ⟨fun h=>?_,fun h=>?_⟩
 ·simp only [decide_eq_true_eq] at h
  obtain ⟨x,hx1⟩:=q00 (l:=l) (k:=k) (by omega)
  refine ⟨by omega,by omega,x,by simpa using hx.gcell (hl.at' hx1),?_⟩
  refine (q1b _ _).then fun b m3 hb h3=>⟨b,rfl,fun hbt=>?_,fun hbf=>?_⟩
  ·have hx3:=hx.trans h3
   refine ⟨by omega,by omega,x,by simpa using hx3.gcell (hl.at' hx1),?_⟩
   intro m4
   refine q54 (ho2.ext h3) hx3 (by have:=q51 (l.take k); simp at this; omega) fun r m5 q1 q2=>next (by omega) _ _ ⟨q2,?_⟩
   rw [q06 hx1,q62]
   have:ptrs [x]=[x]:=by simp [ptrs,hb.1 hbt]
   rw [this]; exact q1
  ·refine next (by omega) _ _ ⟨hx.trans h3,?_⟩
   rw [q06 hx1,q62]
   have:ptrs [x]=[]:=by simp [ptrs]; have:=fb hb hbf; omega
   rw [this,List.append_nil]; exact ho2.ext h3
 ·simp only [decide_eq_false_iff_not] at h
  rw [q0b (by omega)] at ho2
  exact ⟨s,rfl,ho2,hx⟩
theorem q9c {m:Mem} {f:Frame} {r o e:Sl} (hr:q03 m r f.regs) {s:Sl} {l:List Int} (hs:q03 m s l) (hin:∀ y ∈ l,0<=y/\y < f.regs.length) (hsm:l.length<=100000000) :
  GivesI q5b [fv f r o e,Sl.v s] m (words f l):=by
 apply qji
 simp -zeta only [q0a,q09,rI,rS,rB,cI,cB,cS,dI,dB,dS,gk,rg]
 intro m1 m2
 have hx1:Ext m m1:=(Ext.refl m).pushed _
 have h2:Ext m1 m2:=(Ext.refl m1).pushed _
 have ho:Own m1 m2 ty_int 1 (.mk m1.size 0 0 0) []:=Own.new (Ext.refl m1) ty_int 1 [] 0 (by simp)
 have hl:∀ b ∈ [m.size],b < m1.size:=by simp [m1]
 have hsl:=hs.len
 have hrl:=hr.len
 clear_value m2
 clear_value m1
 refine forSI (n:=l.length) (by omega) (fun k s m'=>Ext m1 m'/\Own m1 m' ty_int 1 s ((words f (l.take k)).map Ce.i)) ⟨h2,by simpa [words] using ho⟩ ?_
 rintro k s m3 I μ hk ⟨hx,ho2⟩ next
 have hx3:=hx1.trans hx
 refine ⟨fun h=>?_,fun h=>?_⟩
 ·simp only [decide_eq_true_eq] at h
  obtain ⟨y,hy⟩:=q00 (l:=l) (k:=k) (by omega)
  have hyr:=hin y (q05 hy)
  refine ⟨by omega,by omega,y,by simpa using hx3.gcell (hs.at' hy),hyr.1,by omega,at' f.regs y,by simpa using hx3.gcell (hr.atI hyr.1 hyr.2),?_⟩
  intro m4
  refine q54 ho2 hx (by simp [words]; omega) fun q m5 q1 q2=>⟨Ext.sam2 (hx.pushed _) q2 hl,next (by omega) _ _ ⟨q2,?_⟩⟩
  rw [q06 hy]
  simpa [words] using q1
 ·simp only [decide_eq_false_iff_not] at h
  rw [q0b (by omega)] at ho2
  exact ⟨s,rfl,ho2.base hx1.size,hx3⟩
end
section
theorem qmj {m:Mem} {f:Frame} {r o e:Sl} (hr:q03 m r f.regs) (ho:q03 m o f.own) {s:Sl} {l:List Int} (hs:q03 m s l) (hin:∀ y ∈ l,0<=y/\y < f.regs.length) (hlen:f.regs.length=f.own.length) (hsm:f.own.length<=1000000) (hsl:l.length<=1000000)
  (hb:∀ w ∈ f.own,-1000000000<=w/\w<=1000000000):GivesI q69 [fv f r o e,Sl.v s] m (q0c f.regs f.own l):=by
 apply qho
 simp -zeta only [q0a,q09,rI,rS,rB,cI,cB,cS,dI,dB,dS,gk,rg]
 intro m1
 have hx1:Ext m m1:=(Ext.refl m).pushed _
 have hl:∀ b ∈ [m.size],b < m1.size:=by simp [m1]
 have hsl':=hs.len
 have hrl:=hr.len
 clear_value m1
 refine (q2a (ho.ext hx1) (by omega)).thenS (by omega) hl fun q m2 o2 i2 h2=>⟨q,rfl,?_⟩
 have hql:=i2.len
 have app:∀ (l1 l2 own:List Int),q0c f.regs own (l1 ++ l2)=q0c f.regs (q0c f.regs own l1) l2:=by
  intro l1
  induction l1 with
  | nil=>intro l2 own; rfl
  | cons y l1 ih=>intro l2 own; simp only [List.cons_append,q0c,ih]
 have lo:∀ (l1 own:List Int) (n:Int),(∀ w ∈ own,n<=w)->∀ w ∈ q0c f.regs own l1,n - l1.length<=w:=by
  intro l1
  induction l1 with
  | nil=>intro own n h w hw; have:=h w hw; simp; omega
  | cons y l1 ih =>
   intro own n h w hw
   simp only [q0c] at hw
   have:=ih _ (n - 1) (fun v hv=>by
    split at hv
    ·rcases Classical.em (y.toNat < own.length) with h1 | h1
     ·rcases q5k hv with hv | hv
      ·have:=h _ (List.mem_of_getElem? (i:=y.toNat) (a:=at' own y) (by obtain ⟨z,hz⟩:=q00 h1; rw [at_of' hz]; exact hz)); omega
      ·have:=h v hv; omega
     ·have e1:setI own y (at' own y - 1)=own:=by unfold setI; rw [List.set_eq_of_length_le (by omega)]
      rw [e1] at hv
      have:=h v hv; omega
    ·have:=h v hv; omega) w hw
   simp only [List.length_cons]; omega
 refine forI (n:=l.length) (by omega) (fun k m'=>Ext m1 m'/\Own m1 m' ty_int 1 q ((q0c f.regs f.own (l.take k)).map Ce.i)) ⟨h2,o2⟩ ?_
 rintro k m3 I μ hk ⟨hx,ho3⟩ next
 have hx3:=hx1.trans hx
 refine ⟨fun h=>?_,fun h=>?_⟩
 ·simp only [decide_eq_true_eq] at h
  obtain ⟨y,hy⟩:=q00 (l:=l) (k:=k) (by omega)
  have hyr:=hin y (q05 hy)
  have hlenT:=q3c f.regs (l.take k) f.own
  refine ⟨by omega,by omega,y,by simpa using hx3.gcell (hs.at' hy),hyr.1,by omega,at' f.regs y,by simpa using hx3.gcell (hr.atI hyr.1 hyr.2),?_⟩
  refine (q1b _ _).thenS hx hl fun b m4 hb4 h4 h42=>⟨b,rfl,fun hbt=>?_,fun hbf=>?_⟩
  ·have hx4:=hx1.trans h42
   have ho4:=ho3.ext h4
   have i4:q03 m4 q (q0c f.regs f.own (l.take k)):=q03.ofOwn ho4 (by omega)
   refine ⟨by omega,by omega,y,by simpa using hx4.gcell (hs.at' hy),by omega,by omega,y,by simpa using hx4.gcell (hs.at' hy),hyr.1,by omega,at' (q0c f.regs f.own (l.take k)) y,i4.atI hyr.1 (by omega),hyr.1,by omega,?_⟩
   have hlo:=lo (l.take k) f.own (-1000000000) (fun w hw=>(hb w hw).1) _ (q18 (l:=q0c f.regs f.own (l.take k)) hyr.1 (by omega))
   have hhi:at' (q0c f.regs f.own (l.take k)) y<=1000000000:=by
    obtain ⟨q',hq',hle⟩:=q3x (l.take k) f.own y.toNat _ (at_get (l:=q0c f.regs f.own (l.take k)) hyr.1 (by omega))
    have:=(hb q' (q05 hq')).2; omega
   have hlk:(l.take k).length<=1000000:=by simp; omega
   rw [q07 (by omega) (by omega)]
   rcases ho4.at' with hnil | ⟨bb,c,tail,e1,e2,e3,e4,e5⟩
   ·rw [hnil] at hql; simp at hql; omega
   ·have hoff:q.off=0:=by rw [e1]; rfl
    have hblk:q.blk=bb:=by rw [e1]; rfl
    rw [hoff,hblk]
    have hidx:0+y.toNat*1=y.toNat:=by omega
    rw [hidx]
    have hlt:y.toNat < ((q0c f.regs f.own (l.take k)).map Ce.i).length:=by simp; omega
    refine ⟨e3.wrOk (by simp only [List.length_append]; omega),?_⟩
    intro m5
    have q1:Ext m1 m5:=h42.scells e2 _ _
    refine ⟨Ext.sam2 h42 q1 hl,next (by omega) _ ⟨q1,?_⟩⟩
    rw [q06 hy,app]
    simp only [q0c,if_pos (hb4.1 hbt)]
    refine ⟨by rw [List.length_map,q2y,← List.length_map (f:=Ce.i)]; exact ho4.len,Or.inr ⟨bb,c,tail,e1,e2,?_,?_,e5⟩⟩
    ·have:=Blk.scells (m:=m4) (o:=y.toNat) (r:=[.i (at' (q0c f.regs f.own (l.take k)) y - 1)]) e3
     have e6:setL ((q0c f.regs f.own (l.take k)).map Ce.i ++ tail) y.toNat [.i (at' (q0c f.regs f.own (l.take k)) y - 1)]=(setI (q0c f.regs f.own (l.take k)) y (at' (q0c f.regs f.own (l.take k)) y - 1)).map Ce.i ++ tail:=by
      simp only [setL,setI,List.map_set]
      rw [List.set_append_left _ _ hlt]
     rw [e6] at this; exact this
    ·simp only [List.length_append,List.length_map,q2y] at e4 ⊢; exact e4
  ·refine next (by omega) _ ⟨h42,?_⟩
   rw [q06 hy,app]
   simp only [q0c,if_neg (fb hb4 hbf)]
   exact ho3.ext h4
 ·simp only [decide_eq_false_iff_not] at h
  rw [q0b (by omega)] at ho3
  exact ⟨q,rfl,ho3.base hx1.size,hx3⟩
theorem q1x {m:Mem} {mb:Nat} {d p out hp fr:Sl} {im:Image} {s:St} (V:RV m mb 2 d p out hp fr im s) {w:Int} (hw:1000<=w) {c:Cell} (hc:s.heap[ix w]?=some c) :
  q08 Tryz.prog q0z [vp mb 0,vi w] m fun v m'=>∃ f,v=.agg #[vi c.count,vi c.tag,Sl.v f]/\q03 m' f c.fields/\Ext m m':=by
 apply qcf (mb,0)
 simp -zeta only [q0a,q09,rI,rS,rB,cI,cB,cS,dI,dB,dS,gk,rg]
 intro m1
 have hx1:Ext m m1:=(Ext.refl m).pushed _
 have hh:=q0h.ext hx1 V.heap
 obtain ⟨f,hf,g0,g1,g2⟩:=hh.at' hc
 have hl:=hh.len
 have hlim:=hh.lim
 have hlt:=q04 hc
 unfold ix at hlt g0 g1 g2
 have e:w64 (w - 1000)=w - 1000:=q07 (by omega) (by omega)
 rw [e]
 refine ⟨hp,hx1.gcell V.heapc,by omega,by omega,c.count,g0,c.tag,g1,f,g2,?_⟩
 intro m2
 have hx2:Ext m m2:=hx1.scells (Nat.le_refl _) _ _
 obtain ⟨f',hf',k0,k1,k2⟩:=(q0h.ext hx2 V.heap).at' hc
 unfold ix at k2
 have hff:f'=f:=by
  have h1:=hx1.gcell (V.heapc)
  obtain ⟨f0,hf0,_,_,q2⟩:=V.heap.at' hc
  unfold ix at q2
  have e1:=hx1.gcell q2
  have e2:=hx2.gcell q2
  rw [g2] at e1
  rw [k2] at e2
  simp at e1 e2
  rw [Sl.v_inj] at e1 e2
  rw [e1,e2]
 subst hff
 exact ⟨f',rfl,hf',hx2⟩
theorem qce {m:Mem} {mb:Nat} {d p out hp fr:Sl} {im:Image} {s:St} (V:RV m mb 2 d p out hp fr im s) {e:Nat->Int} (hI:HInv s.heap e) {ws:Sl} {l:List Int} (hs:q03 m ws l) (hl:∀ w ∈ l,live s.heap w) (hsm:l.length<=1000000) :
  q0o Tryz.prog q3e [vp mb 0,Sl.v ws] m (q43 s.heap l):=by
 apply qa2 (mb,0)
 have hsl:=hs.len
 refine forI (n:=l.length) (by omega) (fun k m'=>Ext m m'/\∀ w ∈ l.take k,1000<=w->(q01 s.heap w).count+occ l (ix w)<=999999) ⟨Ext.refl _,by simp⟩ ?_
 rintro k m1 I μ hk ⟨hx,hn⟩ next
 refine ⟨fun h=>?_,fun h=>retT (q0w (by simp at h; omega) hn) hx⟩
 simp only [decide_eq_true_eq] at h
 obtain ⟨x,hx1⟩:=q00 (l:=l) (k:=k) (by omega)
 have hlx:=hl x (q05 hx1)
 have hpx:=ptr_ix hlx.1
 refine forSI (n:=l.length) (by omega) (fun j (many:Int) m'=>Ext m m'/\many=occ (l.take j) (ix x)) ⟨hx,by simp [occ]⟩ ?_
 rintro j many m2 I2 μ2 hj ⟨hx2,rfl⟩ next2
 refine ⟨fun h2=>?_,fun h2=>?_⟩
 ·simp only [decide_eq_true_eq] at h2
  obtain ⟨y,hy⟩:=q00 (l:=l) (k:=j) (by omega)
  have hle:=q3d (l.take j) (ix x)
  have hge:=occ_nn (l.take j) (ix x)
  have hlt:(l.take j).length<=1000000:=by simp; omega
  have hoc:occ (l.take (j+1)) (ix x)=occ (l.take j) (ix x)+if y=x then 1 else 0:=by
   rw [q06 hy,q4d]
   simp only [occ,hpx]; omega
  refine ⟨by omega,by omega,y,by simpa using hx2.gcell (hs.at' hy),by omega,by omega,x,by simpa using hx2.gcell (hs.at' hx1),fun h3=>next2 (by omega) _ _ ⟨hx2,?_⟩,fun h3=>next2 (by omega) _ _ ⟨hx2,?_⟩⟩
  ·simp at h3; rw [hoc,if_pos h3]; exact q07 (by omega) (by omega)
  ·simp at h3; rw [hoc,if_neg h3]; omega
 ·simp only [decide_eq_false_iff_not] at h2
  rw [q0b (by omega)]
  have hle:=q3d l (ix x)
  have hge:=occ_nn l (ix x)
  obtain ⟨hc,hp1⟩:=q0i hlx
  have hmx:=(hI.cell _ (q05 hc)).hi
  refine ⟨by omega,by omega,x,by simpa using hx2.gcell (hs.at' hx1),?_⟩
  refine (q1x (V.ext hx2) hlx.1 hc).mono ?_
  rintro _ m3 ⟨f,rfl,hf,h3⟩
  have e1:w64 ((q01 s.heap x).count+occ l (ix x))=(q01 s.heap x).count+occ l (ix x):=q07 (by omega) (by omega)
  refine ⟨_,_,_,rfl,fun h4=>retF (fun hF=>?_) (hx2.trans h3),fun h4=>next (by omega) _ ⟨hx2.trans h3,q0f hx1 hn fun _=>?_⟩⟩
  ·have:=hF x (q05 hx1) hlx.1
   rw [e1] at h4; simp at h4; omega
  ·rw [e1] at h4; simp at h4; omega
theorem qab {h:List Cell} {l:List Int}:q43 h (ptrs l) ↔ q43 h l:=by
 unfold q43
 constructor
 ·intro hf w hw hp
  have:=hf w (q48.2 ⟨hw,hp⟩) hp
  rwa [qaa] at this
 ·intro hf w hw hp
  rw [qaa]; exact hf w (q48.1 hw).1 hp
theorem cut1 {m:Mem} {s:Sl} {l:List Int} (h:q03 m s l) (h1:1<=l.length):q03 m (Sl.cut s 1 s.len 1) (l.drop 1):=by
 have hl:=h.len
 have hc:=h.cap
 have hlim:=h.lim
 cases s with
 | nil=>simp at hl; omega
 | emp b o sp=>simp at hl; omega
 | mk b o len cap =>
  simp at hl hc hlim
  refine ⟨by simp [Sl.cut]; omega,by simp [Sl.cut]; omega,by simp [Sl.cut]; omega,fun k x hk=>?_⟩
  rw [List.getElem?_drop] at hk
  have hlt:=q04 hk
  obtain ⟨cs,hcs,hrow⟩:=h.row (1+k) x hk
  refine ⟨cs,hcs,fun i c hic=>?_⟩
  have:=hrow i c hic
  simp only [Sl.cut,Sl.blk_mk,Sl.off_mk] at this ⊢
  rw [if_neg (by omega)]
  rw [← this]; congr 1; omega
theorem FrameOk.regRange {im:Image} {f:Frame} (h:FrameOk im f) {r:Int} (h0:0<=r) (h1:r < f.regs.length) (hfit:∀ w ∈ f.regs,w<=9223372036854775807):-9223372036854775808<=at' f.regs r/\at' f.regs r<=9223372036854775807:=by
 have hm:=q18 (l:=f.regs) h0 h1
 refine ⟨?_,hfit _ hm⟩
 rcases h.reg _ hm with h2 | h2
 ·have:=h2.1; omega
 ·omega
theorem qnu {m:Mem} {mb:Nat} {d p out hp fr:Sl} {im:Image} {s:St} (V:RV m mb 2 d p out hp fr im s) {e:Nat->Int} (hI:HInv s.heap e) {f:Frame} {r o h:Sl} (hr:q03 m r f.regs) (hh:q03 m h f.held) {x:Instr} {a j:Sl} (ha:q03 m a x.args)
  (hF:FrameOk im f) (hfit:∀ w ∈ f.regs,w<=9223372036854775807) (hin:∀ y ∈ x.args,0<=y/\y < f.regs.length) (hlen:1<=x.args.length/\x.args.length<=4) (hop:x.op=16 \/ x.op=17) :
  q0o Tryz.prog q5a [vp mb 0,fv f r o h,xv x a j] m (MayOpen s.heap f x):=by
 apply qc1 (mb,0)
 simp -zeta only [q0a,q09,rI,rS,rB,cI,cB,cS,dI,dB,dS,gk,rg]
 intro m1 m2
 have hx2:Ext m m2:=((Ext.refl m).pushed _).pushed _
 have hl:∀ b ∈ [m1.size,m.size],b < m2.size:=by simp [m2,m1]; omega
 have hal:=ha.len
 have hrl:=hr.len
 have hhl:=hh.len
 have hac:=ha.cap
 clear_value m2
 have h0:0<=at' x.args 0/\at' x.args 0 < f.regs.length:=hin _ (q18 (by omega) (by omega))
 have h0h:at' x.args 0 < f.held.length:=by have:=hF.lr; have:=hF.lh; omega
 have hrg:=hF.regRange h0.1 h0.2 hfit
 refine ⟨by omega,by omega,at' x.args 0,(ha.ext hx2).atI (by omega) (by omega),h0.1,by omega,at' f.regs (at' x.args 0),(hr.ext hx2).atI h0.1 h0.2,hp,hx2.gcell V.heapc,?_⟩
 unfold MayOpen
 simp only []
 generalize hwdef:at' f.regs (at' x.args 0)=w at *
 refine (q2w (q0h.ext hx2 V.heap) hrg).thenS (Ext.refl _) hl fun b m3 hb h3 _=>⟨b,rfl,fun hbt=>retF (fun hM=>nb hb hbt hM.1) (hx2.trans h3),fun hbf=>?_⟩
 have hlive:=yb hb hbf
 obtain ⟨hc,hpos⟩:=q0i hlive
 have hfl3:=(hI.cell _ (q05 hc)).fl
 have hx3:=hx2.trans h3
 refine ((q1x (V.ext hx3) hlive.1 hc)).thenS h3 hl ?_
 rintro _ m4 ⟨fl,rfl,hfl,h4⟩
 have h24:=h3.trans h4
 refine ⟨h4,_,_,_,rfl,(q6f hfl (by omega)).thenS (by have:=q51 (q01 s.heap w).fields; omega) (fun b hb=>h24.lt (hl b hb)) fun ps m5 o5 i5 h5=>⟨ps,rfl,by omega,by omega,by omega,?_⟩⟩
 have h25:=h24.trans h5
 have hx5:=hx2.trans h25
 have e1:(Int.toNat (1:Int))=1:=rfl
 have e2:(Int.toNat (a.len:Int))=a.len:=by omega
 rw [e1,e2]
 refine (q9c (hr.ext hx5) (cut1 (ha.ext hx5) (by omega)) (fun y hy=>hin y (List.mem_of_mem_drop hy)) (by simp; omega)).thenS (by simp [words]; omega) (fun b hb=>h25.lt (hl b hb)) fun qs m6 o6 i6 h6=>⟨qs,rfl,?_⟩
 have h26:=h25.trans h6
 refine (qn3 (i5.ext h6) i6).thenS h26 hl fun b2 m7 hb2 h7 h27=>⟨b2,rfl,fun hb2t=>?_,fun hb2f=>retF (fun hM=>fb hb2 hb2f hM.2.1) (hx2.trans h27)⟩
 have hsame:=hb2.1 hb2t
 refine (q1x (V.ext (hx2.trans h27)) hlive.1 hc).thenS h27 hl ?_
 rintro _ m8 ⟨fl8,rfl,hfl8,h8⟩
 have h28:=h27.trans h8
 refine ⟨h8,_,_,_,rfl,fun h1=>?_,fun h1=>?_⟩
 ·simp at h1
  have hx8:=hx2.trans h28
  refine ⟨fun h16=>retT ⟨hlive,hsame,Or.inl h1,fun e=>by simp at h16; omega⟩ hx8,fun h16=>⟨by omega,by omega,at' x.args 0,(ha.ext hx8).atI (by omega) (by omega),h0.1,by omega,at' f.held (at' x.args 0),(hh.ext hx8).atI h0.1 h0h,retB ?_ hx8⟩⟩
  simp only [beq_iff_eq,beq_eq_false_iff_ne,ne_eq] at h16 ⊢
  exact ⟨fun hz=>⟨hlive,hsame,Or.inl h1,fun _=>hz⟩,fun hM=>hM.2.2.2 (by omega)⟩
 ·simp at h1
  refine (qce (V.ext (hx2.trans h28)) hI (i5.ext ((h6.trans h7).trans h8)) (fun v hv=>hI.field (q05 hc) (q48.1 hv).1 (q48.1 hv).2) (by have:=q51 (q01 s.heap w).fields; omega)).thenS h28 hl fun b3 m9 hb3 h9 h29=>⟨b3,rfl,fun hb3t=>?_,fun hb3f=>retF (fun hM=>?_) (hx2.trans h29)⟩
  ·have hcf:=qab.1 (hb3.1 hb3t)
   have hx9:=hx2.trans h29
   refine ⟨fun h16=>retT ⟨hlive,hsame,Or.inr hcf,fun e=>by simp at h16; omega⟩ hx9,fun h16=>⟨by omega,by omega,at' x.args 0,(ha.ext hx9).atI (by omega) (by omega),h0.1,by omega,at' f.held (at' x.args 0),(hh.ext hx9).atI h0.1 h0h,retB ?_ hx9⟩⟩
   simp only [beq_iff_eq,beq_eq_false_iff_ne,ne_eq] at h16 ⊢
   exact ⟨fun hz=>⟨hlive,hsame,Or.inr hcf,fun _=>hz⟩,fun hM=>hM.2.2.2 (by omega)⟩
  ·rcases hM.2.2.1 with h2 | h2
   ·exact h1 h2
   ·exact fb hb3 hb3f (qab.2 h2)
theorem qmx {m:Mem} {mb:Nat} {d p out hp fr:Sl} {im:Image} {s:St} (V:RV m mb 2 d p out hp fr im s) (him:ImageOk im) {e:Nat->Int} (hI:HInv s.heap e) {w:Int} (hw:-9223372036854775808<=w/\w<=9223372036854775807) :
  q0o Tryz.prog q4r [vp mb 0,vi w] m (MayApply im s.heap w):=by
 apply qb6 (mb,0)
 simp -zeta only [q0a,q09,rI,rS,rB,cI,cB,cS,dI,dB,dS,gk,rg]
 refine ⟨hp,V.heapc,(q2w V.heap hw).then fun b m1 hb h1=>⟨b,rfl,fun hbt=>retF (fun hM=>nb hb hbt hM.1) h1,fun hbf=>?_⟩⟩
 have hlive:=yb hb hbf
 obtain ⟨hc,hpos⟩:=q0i hlive
 have hCO:=hI.cell _ (q05 hc)
 have htag:=(hCO.alive hpos).2
 refine (q1x (V.ext h1) hlive.1 hc).mono ?_
 rintro _ m2 ⟨fl,rfl,hfl,h2⟩
 refine ⟨_,_,_,rfl,?_⟩
 intro m3 m4
 have hx2:=h1.trans h2
 have h24:Ext m2 m4:=((Ext.refl m2).pushed _).scells (Nat.le_refl _) _ _
 have s4:m4.size=m2.size+1:=by simp [m4,m3,q02]
 have hB:gcell m4 m2.size 1=some (vi (q01 s.heap w).tag):=(Blk.scells (m:=m3) (o:=0) (r:=[.i (q01 s.heap w).count,.i (q01 s.heap w).tag,.s fl]) (Blk.push m2 _ _)).get 1
 have hl:∀ b ∈ [m2.size],b < m4.size:=by simp [s4]
 clear_value m4
 have hx4:=hx2.trans h24
 have hV4:=V.ext hx4
 have hpl:=V.image.procs.len
 have hp4:=him.sigs.len
 have h12:(q17 im.decls).length<=12:=by
  have:=fc_12 him.sigs.types im.decls.length
  rw [fc_all _ _ (Nat.le_refl _)] at this; exact this
 refine ⟨d,hV4.decls,(q8r hV4.image.decls him.sigs.types).thenS (Ext.refl _) hl fun m5 h5 _=>⟨_,rfl,h5.keepG hB,p,(V.ext (hx4.trans h5)).procs,?_⟩⟩
 have hx5:=hx4.trans h5
 have e1:w64 ((q01 s.heap w).tag - ((q17 im.decls).length:Int))=(q01 s.heap w).tag - q0j im:=q07 (by omega) (by omega)
 have e2:w64 ((p.len:Int) - 1)=(p.len:Int) - 1:=q07 (by omega) (by omega)
 rw [e1,e2]
 refine (q0e _ _ _ _).thenS h5 hl fun b2 m6 hb2 h6 h46=>⟨b2,rfl,fun hb2t=>?_,fun hb2f=>retF (fun hM=>fb hb2 hb2f ⟨hM.2.1,by have:=hM.2.2.1; omega⟩) (hx4.trans h46)⟩
 have hrg:=hb2.1 hb2t
 have hx6:=hx4.trans h46
 have hV6:=V.ext hx6
 obtain ⟨q,hq⟩:=q00 (l:=im.procs) (k:=((q01 s.heap w).tag - q0j im).toNat) (by omega)
 have hqe:q0y im ((q01 s.heap w).tag - q0j im)=q:=by simp [q0y,hq]
 obtain ⟨a',l',c',ha',hl',hc',g0,g1,_⟩:=hV6.image.procs.at' hq
 have hal:=ha'.len
 have hll:=hl'.len
 have hfll:=hfl.len
 have hfl3:=hCO.fl
 have e3:w64 ((fl.len:Int)+1)=(fl.len:Int)+1:=q07 (by omega) (by omega)
 rw [e3]
 unfold MayApply
 rw [hqe]
 refine ⟨p,hV6.procs,by omega,by omega,a',g0,fun h7=>⟨p,hV6.procs,by omega,by omega,l',g1,fun h8=>⟨fun h9=>?_,fun h9=>?_⟩,fun h8=>retF (fun hM=>?_) hx6⟩,fun h7=>retF (fun hM=>?_) hx6⟩
 ·simp at h7 h8 h9
  exact retT ⟨hlive,hrg.1,by omega,by omega,by omega,Or.inl h9⟩ hx6
 ·simp at h7 h8 h9
  refine (q6f (hfl.ext (h24.trans h46)) (by omega)).thenS (by have:=q51 (q01 s.heap w).fields; omega) (fun b hb=>h46.lt (hl b hb)) fun ps m7 o7 i7 h10=>⟨ps,rfl,?_⟩
  have h47:=h46.trans h10
  refine (qce (V.ext (hx4.trans h47)) hI i7 (fun v hv=>hI.field (q05 hc) (q48.1 hv).1 (q48.1 hv).2) (by have:=q51 (q01 s.heap w).fields; omega)).thenS h47 hl fun b3 m8 hb3 h11 h48=>⟨b3,rfl,retB ?_ (hx4.trans h48)⟩
  rw [hb3,qab]
  refine ⟨fun hcf=>⟨hlive,hrg.1,by omega,by omega,by omega,Or.inr hcf⟩,fun hM=>?_⟩
  rcases hM.2.2.2.2.2 with h2 | h2
  ·exact absurd h2 h9
  ·exact h2
 ·have:=hM.2.2.2.2.1; simp at h8; omega
 ·have:=hM.2.2.2.1; simp at h7; omega
theorem qmg {m:Mem} {mb:Nat} {d p out hp fr:Sl} {im:Image} {s:St} (V:RV m mb 2 d p out hp fr im s) {f:Frame} {r o h:Sl} (hh:q03 m h f.held) {x:Instr} {a j:Sl} (ha:q03 m a x.args) (hinto:0<=x.into/\x.into<=f.held.length) (hlim:f.held.length<=1000000)
  (hheld:∀ w ∈ f.held,w ≠ 0->1000<=w/\∃ c,s.heap[ix w]?=some c) :
  q0o Tryz.prog q4u [vp mb 0,fv f r o h,xv x a j] m (MayPlace s.heap f x):=by
 apply qbf (mb,0)
 simp -zeta only [q0a,q09,rI,rS,rB,cI,cB,cS,dI,dB,dS,gk,rg]
 intro m1 m2
 have hx2:Ext m m2:=((Ext.refl m).pushed _).pushed _
 have hl:∀ b ∈ [m1.size,m.size],b < m2.size:=by simp [m2,m1]; omega
 have hB:gcell m2 m1.size 4=some (Sl.v a):=(Blk.push m1 _ _).get 4
 have hal:=ha.len
 have hhl:=hh.len
 clear_value m2
 unfold MayPlace
 refine ⟨fun h0=>retT (fun hne=>absurd (by simpa using h0) hne) hx2,fun h0=>?_⟩
 simp at h0
 have e:w64 (x.into - 1)=x.into - 1:=q07 (by omega) (by omega)
 rw [e]
 have hg:=(hh.ext hx2).atI (i:=x.into - 1) (by omega) (by omega)
 refine ⟨by omega,by omega,at' f.held (x.into - 1),hg,fun h1=>retT (fun _ hne=>absurd (by simpa using h1) hne) hx2,fun h1=>?_⟩
 simp at h1
 obtain ⟨hw,c,hc⟩:=hheld _ (q18 (l:=f.held) (i:=x.into - 1) (by omega) (by omega)) h1
 refine ⟨by omega,by omega,at' f.held (x.into - 1),hg,(q1x (V.ext hx2) hw hc).thenS (Ext.refl _) hl ?_⟩
 rintro _ m3 ⟨fl,rfl,hfl,h3⟩
 have hfll:=hfl.len
 have hce:q01 s.heap (at' f.held (x.into - 1))=c:=by simp [q01,hc]
 refine ⟨h3,_,_,_,rfl,h3.keepG hB,retB ?_ (hx2.trans h3)⟩
 rw [hce]
 simp
 exact ⟨fun h2 _ _=>by omega,fun h2=>by have:=h2 h0 h1; omega⟩
theorem q80 (im:Image) (x:Instr):∀ (l r:List Int) (k:Nat),q19 im x k (l ++ r)=q19 im x k l ++ q19 im x (k+l.length) r
 | [],r,k=>by simp [q19]
 | a :: l,r,k=>by
  have:=q80 im x l r (k+1)
  simp only [List.cons_append,q19,this,List.length_cons]
  have e:k+(l.length+1)=k+1+l.length:=by omega
  rw [e]
  split <;> simp
theorem qda {m:Mem} {mb:Nat} {d p out hp fr:Sl} {im:Image} {s:St} (V:RV m mb 2 d p out hp fr im s) {f:Frame} {r o h:Sl} (hr:q03 m r f.regs) {x:Instr} {a j:Sl} (ha:q03 m a x.args) (hF:FrameOk im f) (hfit:∀ w ∈ f.regs,w<=9223372036854775807)
  (hin:∀ y ∈ x.args,0<=y/\y < f.regs.length) (hc:CallOk im x) (hop:x.op=9 \/ x.op=24) :
  q0o Tryz.prog q3q [vp mb 0,fv f r o h,xv x a j] m (LentLive im s.heap f x):=by
 apply qbb (mb,0)
 simp -zeta only [q0a,q09,rI,rS,rB,cI,cB,cS,dI,dB,dS,gk,rg]
 intro m1 m2
 have hx2:Ext m m2:=((Ext.refl m).pushed _).pushed _
 have hl:∀ b ∈ [m1.size,m.size],b < m2.size:=by simp [m2,m1]; omega
 have hal:=ha.len
 have hrl:=hr.len
 clear_value m2
 refine forI (n:=x.args.length) (hal ▸ ha.lim) (fun k m'=>Ext m2 m'/\∀ y ∈ q19 im x 0 (x.args.take k),1000<=at' f.regs y->live s.heap (at' f.regs y)) ⟨Ext.refl _,by simp [q19]⟩ ?_
 rintro k m3 I μ hk ⟨hx,hn⟩ next
 have hx3:=hx2.trans hx
 refine ⟨fun h=>?_,fun h=>retT (by simp at h; rwa [q0b (by omega)] at hn) hx3⟩
 simp only [decide_eq_true_eq] at h
 obtain ⟨y,hy⟩:=q00 (l:=x.args) (k:=k) (by omega)
 have hyr:=hin y (q05 hy)
 have hV3:=V.ext hx3
 have hsplit:q19 im x 0 (x.args.take (k+1))=q19 im x 0 (x.args.take k) ++ q19 im x k [y]:=by
  rw [q06 hy,q80]
  congr 2
  simp; omega
 have hkeep:(lentIn im x k=true->1000<=at' f.regs y->live s.heap (at' f.regs y))->∀ z ∈ q19 im x 0 (x.args.take (k+1)),1000<=at' f.regs z->live s.heap (at' f.regs z):=fun hh z hz=>by
  rw [hsplit] at hz
  rcases List.mem_append.1 hz with hz | hz
  ·exact hn z hz
  ·simp only [q19] at hz
   split at hz
   ·rename_i hli; simp at hz; subst hz; exact hh hli
   ·simp at hz
 have hmem:lentIn im x k=true->y ∈ q19 im x 0 x.args:=fun hli=>by
  have e1:x.args=x.args.take (k+1) ++ x.args.drop (k+1):=(List.take_append_drop _ _).symm
  rw [e1,q80,hsplit]
  refine List.mem_append_left _ (List.mem_append_right _ ?_)
  simp only [q19]; rw [if_pos hli]; simp
 refine ⟨by omega,by omega,y,by simpa using hx3.gcell (ha.at' hy),hyr.1,by omega,at' f.regs y,by simpa using hx3.gcell (hr.atI hyr.1 hyr.2),d,hV3.decls,p,hV3.procs,?_⟩
 refine (q9l hV3.image hc a j k).thenS hx hl fun b m4 hb h4 h42=>⟨b,rfl,fun hbt=>?_,fun hbf=>next (by omega) _ ⟨h42,hkeep fun hli=>absurd ⟨hop,hli⟩ (fb hb hbf)⟩⟩
 have hli:=(hb.1 hbt).2
 refine (q1b _ _).thenS h42 hl fun b2 m5 hb2 h5 h52=>⟨b2,rfl,fun hb2t=>?_,fun hb2f=>next (by omega) _ ⟨h52,hkeep fun _ hp=>absurd hp (fb hb2 hb2f)⟩⟩
 have hx5:=hx2.trans h52
 refine ⟨hp,(V.ext hx5).heapc,(q2w (q0h.ext hx5 V.heap) (hF.regRange hyr.1 hyr.2 hfit)).thenS h52 hl fun b3 m6 hb3 h6 h62=>⟨b3,rfl,fun h7=>retF (fun hM=>nb hb3 h7 (hM y (hmem hli) (hb2.1 hb2t))) (hx2.trans h62),fun h7=>next (by omega) _ ⟨h62,hkeep fun _ _=>yb hb3 h7⟩⟩⟩
end
section
structure Cur (im:Image) (s:St) (fs:List Frame) (f:Frame) (x:Instr):Prop where
 ok:StateOk im s
 run:s.status=3
 fr:s.frames=fs ++ [f]
 cur:q14 im f=x
 fit:∀ g ∈ s.frames,∀ w ∈ g.regs,w<=9223372036854775807
section
variable {im:Image} {s:St} {fs:List Frame} {f:Frame} {x:Instr}
theorem Cur.F (c:Cur im s fs f x):FrameOk im f:=c.ok.frames f (by rw [c.fr]; simp)
theorem Cur.fitF (c:Cur im s fs f x):∀ w ∈ f.regs,w<=9223372036854775807:=c.fit f (by rw [c.fr]; simp)
theorem Cur.I (c:Cur im s fs f x):∃ p,im.procs[f.proc.toNat]?=some p/\q0y im f.proc=p/\ProcOk im p/\p.code[f.pc.toNat]?=some x/\InstrOk im p f.pc.toNat x:=by
 have:=c.F.instr c.ok.image
 rwa [c.cur] at this
theorem Cur.lens (c:Cur im s fs f x):f.regs.length=f.own.length/\f.held.length=f.own.length/\1<=f.own.length/\f.own.length<=2000:=by
 obtain ⟨p,_,e,hp,_,_⟩:=c.I
 have h1:=c.F.lr
 have h2:=c.F.lo
 have h3:=c.F.lh
 rw [e] at h1 h2 h3
 have:=hp.regs
 omega
theorem Cur.arg (c:Cur im s fs f x):∀ y ∈ x.args,0<=y/\y < f.regs.length:=fun y hy=>by
 obtain ⟨p,_,e,_,_,hI⟩:=c.I
 have h1:=c.F.lr
 rw [e] at h1
 have:=hI.args y hy
 omega
theorem Cur.dst (c:Cur im s fs f x):0<=x.dst/\x.dst < f.own.length:=by
 obtain ⟨p,_,e,_,_,hI⟩:=c.I
 have h1:=c.F.lo
 rw [e] at h1
 have:=hI.dst
 omega
theorem Cur.call (c:Cur im s fs f x):CallOk im x:=let ⟨_,_,_,_,_,hI⟩:=c.I; hI.call
theorem Cur.opc (c:Cur im s fs f x):0<=x.op/\x.op<=24/\x.op ≠ 7/\x.op ≠ 8/\x.op ≠ 12/\x.op ≠ 13:=by
 obtain ⟨p,_,_,hP,_,hI⟩:=c.I
 exact ((qlw hP.regs.2.2 c.ok.image.sigs.len.2 fun q hq=>(c.ok.image.sigs.each q hq).1).1 hI).1
theorem Cur.args4 (c:Cur im s fs f x):x.args.length<=4/\((x.op=5 \/ x.op=14 \/ x.op=15 \/ x.op=18 \/ x.op=23 \/ x.op=19 \/ x.op=20 \/ x.op=21)->x.args.length=1)/\((x.op=1 \/ x.op=2 \/ x.op=3 \/ x.op=4 \/ x.op=11)->x.args.length=2) /\
  ((x.op=16 \/ x.op=17)->1<=x.args.length)/\(x.op=6->0<=x.into/\x.into<=f.held.length/\0<=x.num/\x.num < 12/\x.args.length<=3)/\(x.op=10->0<=x.num/\x.num < 4/\x.args.length<=3)/\(x.op=0->-999<=x.num/\x.num<=999):=by
 obtain ⟨p,_,e,hP,_,hI⟩:=c.I
 have hOp:=hI.op
 have h1:=c.F.lh
 rw [e] at h1
 have hsig:=c.ok.image.sigs
 have h12:(q17 im.decls).length<=12:=by
  have:=fc_12 hsig.types im.decls.length
  rw [fc_all _ _ (Nat.le_refl _)] at this; exact this
 have h3:=qm3 hsig.types x.num
 unfold OpOk at hOp
 by_cases e0:x.op=0
 ·rw [if_pos e0] at hOp; omega
 rw [if_neg e0] at hOp
 by_cases e1:x.op=1 \/ x.op=2 \/ x.op=3 \/ x.op=4 \/ x.op=11
 ·rw [if_pos e1] at hOp; omega
 rw [if_neg e1] at hOp
 by_cases e2:x.op=5 \/ x.op=14 \/ x.op=15 \/ x.op=18 \/ x.op=23
 ·rw [if_pos e2] at hOp; omega
 rw [if_neg e2] at hOp
 by_cases e3:x.op=6
 ·rw [if_pos e3] at hOp; omega
 rw [if_neg e3] at hOp
 by_cases e4:x.op=9 \/ x.op=24
 ·rw [if_pos e4] at hOp
  obtain ⟨q,h5,h6,h7⟩:=hOp
  have:=(hsig.each q (q05 h6)).1; omega
 rw [if_neg e4] at hOp
 by_cases e5:x.op=10
 ·rw [if_pos e5] at hOp
  obtain ⟨⟨q,h5,h6,h7⟩,_⟩:=hOp
  have:=(hsig.each q (q05 h6)).1
  have:=q04 h6
  have:=hsig.len; omega
 rw [if_neg e5] at hOp
 by_cases e6:x.op=16 \/ x.op=17
 ·rw [if_pos e6] at hOp; omega
 rw [if_neg e6] at hOp
 by_cases e7:x.op=19
 ·rw [if_pos e7] at hOp; omega
 rw [if_neg e7] at hOp
 by_cases e8:x.op=20
 ·rw [if_pos e8] at hOp; omega
 rw [if_neg e8] at hOp
 by_cases e9:x.op=22
 ·rw [if_pos e9] at hOp; omega
 rw [if_neg e9] at hOp
 by_cases e10:x.op=21
 ·rw [if_pos e10] at hOp
  have:=hOp.1; omega
 rw [if_neg e10] at hOp; exact hOp.elim
theorem Cur.keptAt (c:Cur im s fs f x):∀ w ∈ f.held,w ≠ 0->1000<=w/\∃ d,s.heap[ix w]?=some d/\d.count < 0:=fun w hw hne=>by
 have hp:1000<=w:=by have:=c.F.held w hw; omega
 refine ⟨hp,?_⟩
 have hh1:0 < holds s.frames (ix w):=by
  rw [c.fr,q1e,q2j]
  have:=qai fs (ix w)
  have:=q8x (l:=f.held) (a:=ix w) (by rw [ptr_ix hp]; exact hw)
  omega
 exact Classical.byContradiction fun hn=>by have:=c.ok.unkept (ix w) hn; omega
theorem Cur.ownb (c:Cur im s fs f x):∀ o ∈ f.own,0<=o/\o<=999999:=fun o ho=>by
 have hnn:=c.F.ownNN o ho
 refine ⟨hnn,?_⟩
 rcases Classical.em (0 < o) with hp | hp
 ·obtain ⟨k,hk⟩:=List.mem_iff_getElem?.1 ho
  have:=c.lens
  obtain ⟨w,hw⟩:=q00 (l:=f.regs) (k:=k) (by have:=q04 hk; omega)
  have h1:=(c.F.own k o w hk hw).2 hp
  have h2:=qn2 c.F.ownNN hw hk (a:=ix w) (by rw [ptr_ix h1])
  have h3:o<=owns s.frames (ix w):=by
   rw [c.fr,q1u,q3t]
   have:=qki (fs:=fs) (fun g hg=>c.ok.frames g (by rw [c.fr]; exact List.mem_append_left _ hg)) (ix w)
   omega
  obtain ⟨d,hd,hdp⟩:=c.ok.heap.lv (ix w) (by omega)
  have h4:=c.ok.heap.ex _ d hd hdp
  have h5:=q60 s.heap (ix w)
  have h6:=(c.ok.heap.cell d (q05 hd)).hi
  omega
 ·omega
theorem Cur.takenIn (c:Cur im s fs f x):∀ r ∈ taken im x,0<=r/\r < f.regs.length:=fun r hr=>c.arg r (qe6 hr)
end
set_option maxHeartbeats 1000000 in
theorem qp2 {m:Mem} {mb:Nat} {d p out hp fr:Sl} {im:Image} {s:St} (V:RV m mb 2 d p out hp fr im s) {fs:List Frame} {f:Frame} {x:Instr} (C:Cur im s fs f x) {r o h a j ow:Sl} (hr:q03 m r f.regs) (hh:q03 m h f.held) (ha:q03 m a x.args) {own:List Int} (how:q03 m ow own) (hol:own.length=f.own.length) :
  q0o Tryz.prog q45 [vp mb 0,fv f r o h,xv x a j,Sl.v ow] m (MayRun im s f x own):=by
 apply qch (mb,0)
 simp -zeta only [q0a,q09,rI,rS,rB,cI,cB,cS,dI,dB,dS,gk,rg]
 intro m1 m2
 have hx2:Ext m m2:=((Ext.refl m).pushed _).pushed _
 have hl:∀ b ∈ [m1.size,m.size],b < m2.size:=by simp [m2,m1]; omega
 have hB1:Blk m2 m1.size q2d [.i x.op,.i x.dst,.i x.num,.i x.into,.s a,.s j]:=Blk.push m1 _ _
 have hB0:Blk m2 m.size q1l [.i f.proc,.i f.pc,.i f.dst,.s r,.s o,.s h]:=(Blk.push m _ _).ext (Ext.push m1 _)
 have hal:=ha.len
 have hrl:=hr.len
 have hhl:=hh.len
 have howl:=how.len
 have hd:=C.dst
 have hlens:=C.lens
 have h4:=C.args4
 have hI:=C.ok.heap
 clear_value m2
 refine ⟨fun m'=>Ext m2 m'/\(∀ o ∈ own,0<=o)/\(Sets x.op->at' own x.dst<=0),?_,?_⟩
 ·refine (qft (how.ext hx2)).thenS (Ext.refl _) hl fun b m3 hb h3 _=>⟨b,rfl,fun hbt=>retF (fun hM=>nb hb hbt hM.nn) (hx2.trans h3),fun hbf=>?_⟩
  refine (qih _ _).thenS h3 hl fun b2 m4 hb2 h5 h24=>⟨b2,rfl,fun hbt=>?_,fun hb2f=>⟨h24,yb hb hbf,fun hs=>absurd hs (fb hb2 hb2f)⟩⟩
  refine ⟨hd.1,by omega,at' own x.dst,(how.ext (hx2.trans h24)).atI hd.1 (by omega),fun h6=>retF (fun hM=>?_) (hx2.trans h24),fun h6=>⟨h24,yb hb hbf,fun _=>by simpa using h6⟩⟩
  have:=hM.dst (hb2.1 hbt); simp at h6; omega
 ·rintro m3 ⟨h3,hnn,hdst⟩
  have hx3:=hx2.trans h3
  have hV:=V.ext hx3
  have mk:∀ {P:Prop},(MayRun im s f x own->P)->(P->MayRun im s f x own)->(MayRun im s f x own ↔ P):=fun h1 h2=>⟨h1,h2⟩
  have arg0:1<=x.args.length->0<=at' x.args 0/\at' x.args 0 < f.regs.length:=fun h1=>C.arg _ (q18 (by omega) (by omega))
  have ga:∀ {m'},Ext m m'->1<=x.args.length->gcell m' a.blk (a.off+Int.toNat (0:Int)*1)=some (vi (at' x.args 0)):=fun hx h1=>(ha.ext hx).atI (by omega) (by omega)
  have gr:∀ {m'},Ext m m'->1<=x.args.length->gcell m' r.blk (r.off+Int.toNat (at' x.args 0)*1)=some (vi (at' f.regs (at' x.args 0))):=fun hx h1=>(hr.ext hx).atI (arg0 h1).1 (arg0 h1).2
  refine ⟨fun e=>?_,fun e1=>?_⟩
  ·simp only [Bool.or_eq_true,beq_iff_eq] at e
   refine (qie (hr.ext hx3) (ha.ext hx3) C.arg).thenS h3 hl fun b m4 hb h5 h24=>⟨b,rfl,retB (hb.trans ?_) (hx2.trans h24)⟩
   refine ⟨fun hp=>?_,fun h=>h.ints (by omega)⟩
   refine ⟨hnn,hdst,?_,?_,?_,?_,?_,?_,?_,?_,?_,?_,?_⟩ <;> intro e' <;> first | (exfalso; omega) | exact hp
  simp only [Bool.or_eq_false_iff,beq_eq_false_iff_ne] at e1
  refine ⟨fun e=>?_,fun e2=>?_⟩
  ·simp only [beq_iff_eq] at e
   have hin:=h4.2.2.2.2.1 e
   refine (qmg hV (hh.ext hx3) (ha.ext hx3) ⟨hin.1,hin.2.1⟩ (by omega) (fun w hw hne=>by obtain ⟨h1,d',hd',_⟩:=C.keptAt w hw hne; exact ⟨h1,d',hd'⟩)).thenS h3 hl fun b m4 hb h5 h24=>⟨b,rfl,retB (hb.trans ?_) (hx2.trans h24)⟩
   refine ⟨fun hp=>?_,fun h=>h.place e⟩
   refine ⟨hnn,hdst,?_,?_,?_,?_,?_,?_,?_,?_,?_,?_,?_⟩ <;> intro e' <;> first | (exfalso; omega) | exact hp
  simp only [beq_eq_false_iff_ne] at e2
  refine ⟨fun e=>?_,fun e3=>?_⟩
  ·simp only [beq_iff_eq] at e
   refine (qda hV (hr.ext hx3) (ha.ext hx3) C.F C.fitF C.arg C.call (Or.inl e)).thenS h3 hl fun b m4 hb h5 h24=>⟨b,rfl,retB (hb.trans ?_) (hx2.trans h24)⟩
   refine ⟨fun hp=>?_,fun h=>h.lent (Or.inl e)⟩
   refine ⟨hnn,hdst,?_,?_,?_,?_,?_,?_,?_,?_,?_,?_,?_⟩ <;> intro e' <;> first | (exfalso; omega) | exact hp
  simp only [beq_eq_false_iff_ne] at e3
  refine ⟨fun e=>?_,fun e4=>?_⟩
  ·simp only [beq_iff_eq] at e
   refine (qda hV (hr.ext hx3) (ha.ext hx3) C.F C.fitF C.arg C.call (Or.inr e)).thenS h3 hl fun b m4 hb h5 h24=>⟨b,rfl,fun hbt=>?_,fun hbf=>retF (fun hM=>fb hb hbf (hM.lent (Or.inr e))) (hx2.trans h24)⟩
   refine (q4x (how.ext (hx2.trans h24))).thenS h24 hl fun b2 m5 hb2 h6 h25=>⟨b2,rfl,fun hb2t=>?_,fun hb2f=>retF (fun hM=>fb hb2 hb2f (hM.zero (Or.inl e)).1) (hx2.trans h25)⟩
   refine (q4x (hh.ext (hx2.trans h25))).thenS h25 hl fun b3 m6 hb3 h7 h26=>⟨b3,rfl,retB (hb3.trans ?_) (hx2.trans h26)⟩
   refine ⟨fun hp=>?_,fun h=>(h.zero (Or.inl e)).2⟩
   refine ⟨hnn,hdst,?_,?_,?_,?_,?_,?_,?_,?_,?_,?_,?_⟩ <;> intro e' <;> first | (exfalso; omega) | exact hb.1 hbt | exact ⟨hb2.1 hb2t,hp⟩
  simp only [beq_eq_false_iff_ne] at e4
  refine ⟨fun e=>?_,fun e5=>?_⟩
  ·simp only [beq_iff_eq] at e
   have hone:=h4.2.1 (by omega)
   refine (q4x (how.ext hx3)).thenS h3 hl fun b2 m5 hb2 h6 h25=>⟨b2,rfl,fun hb2t=>?_,fun hb2f=>retF (fun hM=>fb hb2 hb2f (hM.zero (Or.inr e)).1) (hx2.trans h25)⟩
   refine (q4x (hh.ext (hx2.trans h25))).thenS h25 hl fun b3 m6 hb3 h7 h26=>⟨b3,rfl,fun hb3t=>?_,fun hb3f=>retF (fun hM=>fb hb3 hb3f (hM.zero (Or.inr e)).2) (hx2.trans h26)⟩
   have hx6:=hx2.trans h26
   have hV6:=V.ext hx6
   have hfl:=hV6.frames.len
   have fin:∀ hp:1 < s.frames.length \/ at' f.regs (at' x.args 0) < 1000,MayRun im s f x own:=fun hp=>by
    refine ⟨hnn,hdst,?_,?_,?_,?_,?_,?_,?_,?_,?_,?_,?_⟩ <;> intro e' <;> first | (exfalso; omega) | exact ⟨hb2.1 hb2t,hb3.1 hb3t⟩ | exact hp
   refine ⟨fr,hV6.framesc,fun h8=>retT (fin (Or.inl (by simp at h8; omega))) hx6,fun h8=>?_⟩
   refine ⟨by omega,by omega,_,ga hx6 (by omega),(arg0 (by omega)).1,by have:=(arg0 (by omega)).2; omega,_,gr hx6 (by omega),(q1b _ _).thenS h26 hl fun b4 m7 hb4 h9 h27=>⟨b4,rfl,retB ?_ (hx2.trans h27)⟩⟩
   simp at h8
   constructor
   ·intro hb5
    exact fin (Or.inr (by have:=nb hb4 hb5; omega))
   ·intro hM
    rcases hM.ret e with h10 | h10
    ·omega
    ·have:¬ b4=true:=fun hb6=>by have:=hb4.1 hb6; omega
     simpa using this
  simp only [beq_eq_false_iff_ne] at e5
  refine ⟨fun e=>?_,fun e6=>?_⟩
  ·simp only [beq_iff_eq] at e
   have hone:=h4.2.2.1 (by omega)
   have h0:=arg0 (by omega)
   refine ⟨by omega,by omega,_,ga hx3 (by omega),h0.1,by omega,_,gr hx3 (by omega),(qmx hV C.ok.image hI (C.F.regRange h0.1 h0.2 C.fitF)).thenS h3 hl fun b m4 hb h5 h24=>⟨b,rfl,retB (hb.trans ?_) (hx2.trans h24)⟩⟩
   refine ⟨fun hp=>?_,fun h=>h.apply e⟩
   refine ⟨hnn,hdst,?_,?_,?_,?_,?_,?_,?_,?_,?_,?_,?_⟩ <;> intro e' <;> first | (exfalso; omega) | exact hp
  simp only [beq_eq_false_iff_ne] at e6
  refine ⟨fun e=>?_,fun e7=>?_⟩
  ·simp only [beq_iff_eq] at e
   have hone:=h4.2.1 (by omega)
   have h0:=arg0 (by omega)
   refine ⟨by omega,by omega,_,ga hx3 (by omega),h0.1,by omega,_,gr hx3 (by omega),hp,hV.heapc,(q2w hV.heap (C.F.regRange h0.1 h0.2 C.fitF)).thenS h3 hl fun b m4 hb h5 h24=>⟨b,rfl,fun hbt=>?_,fun hbf=>retF (fun hM=>fb hb hbf (hM.dup e).1) (hx2.trans h24)⟩⟩
   have hlv:=hb.1 hbt
   refine (q1x (V.ext (hx2.trans h24)) hlv.1 (q0i hlv).1).thenS h24 hl ?_
   rintro _ m5 ⟨fl,rfl,hfl,h6⟩
   refine ⟨h6,_,_,_,rfl,retB ?_ (hx2.trans (h24.trans h6))⟩
   simp only [decide_eq_true_eq]
   refine ⟨fun hp=>?_,fun h=>(h.dup e).2⟩
   refine ⟨hnn,hdst,?_,?_,?_,?_,?_,?_,?_,?_,?_,?_,?_⟩ <;> intro e' <;> first | (exfalso; omega) | exact ⟨hlv,hp⟩
  simp only [beq_eq_false_iff_ne] at e7
  refine ⟨fun e=>?_,fun e8=>?_⟩
  ·simp only [beq_iff_eq] at e
   have hone:=h4.2.1 (by omega)
   have h0:=arg0 (by omega)
   refine ⟨by omega,by omega,_,ga hx3 (by omega),h0.1,by omega,_,gr hx3 (by omega),(q1b _ _).thenS h3 hl fun b m4 hb h5 h24=>⟨b,rfl,retB (hb.trans ?_) (hx2.trans h24)⟩⟩
   refine ⟨fun hp=>?_,fun h=>h.drop e⟩
   refine ⟨hnn,hdst,?_,?_,?_,?_,?_,?_,?_,?_,?_,?_,?_⟩ <;> intro e' <;> first | (exfalso; omega) | exact hp
  simp only [beq_eq_false_iff_ne] at e8
  refine ⟨fun e=>?_,fun e9=>?_⟩
  ·simp only [Bool.or_eq_true,beq_iff_eq] at e
   refine (qnu hV hI (hr.ext hx3) (hh.ext hx3) (ha.ext hx3) C.F C.fitF C.arg ⟨h4.2.2.2.1 e,h4.1⟩ e).thenS h3 hl fun b m4 hb h5 h24=>⟨b,rfl,retB (hb.trans ?_) (hx2.trans h24)⟩
   refine ⟨fun hp=>?_,fun h=>h.open' e⟩
   refine ⟨hnn,hdst,?_,?_,?_,?_,?_,?_,?_,?_,?_,?_,?_⟩ <;> intro e' <;> first | (exfalso; omega) | exact hp
  simp only [Bool.or_eq_false_iff,beq_eq_false_iff_ne] at e9
  refine ⟨fun e=>?_,fun e10=>?_⟩
  ·simp only [beq_iff_eq] at e
   have hone:=h4.2.1 (by omega)
   have h0:=arg0 (by omega)
   refine ⟨hp,hV.heapc,by omega,by omega,_,ga hx3 (by omega),h0.1,by omega,_,gr hx3 (by omega),(q2w hV.heap (C.F.regRange h0.1 h0.2 C.fitF)).thenS h3 hl fun b m4 hb h5 h24=>⟨b,rfl,fun hbt=>?_,fun hbf=>retF (fun hM=>fb hb hbf (hM.load e).1) (hx2.trans h24)⟩⟩
   have hlv:=hb.1 hbt
   have hx4:=hx2.trans h24
   refine ⟨by omega,by omega,_,ga hx4 (by omega),h0.1,by omega,_,gr hx4 (by omega),(q1x (V.ext hx4) hlv.1 (q0i hlv).1).thenS h24 hl ?_⟩
   rintro _ m5 ⟨fl,rfl,hfl,h6⟩
   have hfll:=hfl.len
   refine ⟨h6,_,_,_,rfl,h6.keepG ((hB1.ext h24).get 2),retB ?_ (hx2.trans (h24.trans h6))⟩
   simp only [decide_eq_true_eq]
   refine ⟨fun hp=>?_,fun h=>by have:=(h.load e).2; omega⟩
   refine ⟨hnn,hdst,?_,?_,?_,?_,?_,?_,?_,?_,?_,?_,?_⟩ <;> intro e' <;> first | (exfalso; omega) | exact ⟨hlv,by omega⟩
  simp only [beq_eq_false_iff_ne] at e10
  refine ⟨fun e=>?_,fun e11=>?_⟩
  ·simp only [beq_iff_eq] at e
   have hone:=h4.2.1 (by omega)
   have h0:=arg0 (by omega)
   refine ⟨hp,hV.heapc,by omega,by omega,_,ga hx3 (by omega),h0.1,by omega,_,gr hx3 (by omega),(q2w hV.heap (C.F.regRange h0.1 h0.2 C.fitF)).thenS h3 hl fun b m4 hb h5 h24=>⟨b,rfl,fun hbt=>?_,fun hbf=>retF (fun hM=>fb hb hbf (hM.switch e).1) (hx2.trans h24)⟩⟩
   have hlv:=hb.1 hbt
   have hx4:=hx2.trans h24
   have hV4:=V.ext hx4
   refine ⟨d,hV4.decls,by omega,by omega,_,ga hx4 (by omega),h0.1,by omega,_,gr hx4 (by omega),(qfc hV4.image.decls C.ok.image.sigs.types _).thenS h24 hl ?_⟩
   rintro _ m5 ⟨cs,rfl,hcs,h6⟩
   have h25:=h24.trans h6
   refine ⟨h6,cs,rfl,h6.keepG (gr hx4 (by omega)),h6.keepG (ga hx4 (by omega)),h6.keepG ((hB1.ext h24).get 4),h6.keepG ((hB0.ext h24).get 3),(q1x (V.ext (hx2.trans h25)) hlv.1 (q0i hlv).1).thenS h25 hl ?_⟩
   rintro _ m6 ⟨fl,rfl,hfl,h7⟩
   refine ⟨h7,_,_,_,rfl,(qj2 (hcs.ext h7) _).thenS (h25.trans h7) hl fun b2 m7 hb2 h8 h27=>⟨b2,rfl,retB (hb2.trans ?_) (hx2.trans h27)⟩⟩
   refine ⟨fun hp=>?_,fun h=>(h.switch e).2⟩
   refine ⟨hnn,hdst,?_,?_,?_,?_,?_,?_,?_,?_,?_,?_,?_⟩ <;> intro e' <;> first | (exfalso; omega) | exact ⟨hlv,hp⟩
  ·simp only [beq_eq_false_iff_ne] at e11
   refine retT ?_ hx3
   refine ⟨hnn,hdst,?_,?_,?_,?_,?_,?_,?_,?_,?_,?_,?_⟩ <;> intro e' <;> exfalso <;> omega
end
section
structure Chg (p:Nat->Prop) (ro:Nat->Nat) (m:Mem) (ro':Nat->Nat) (m':Mem):Prop where
 size:m.size<=m'.size
 role:∀ b,b < m.size->ro' b=ro b
 new:∀ b,m'.size<=b->ro' b=0
 keep:∀ b,b < m.size->¬ p (ro b)->m'[b]?=m[b]?
theorem Chg.refl (p:Nat->Prop) {ro:Nat->Nat} {m:Mem} (h:∀ b,m.size<=b->ro b=0):Chg p ro m ro m:=⟨Nat.le_refl _,fun _ _=>rfl,h,fun _ _ _=>rfl⟩
theorem Chg.trans {p:Nat->Prop} {r1 r2 r3:Nat->Nat} {m1 m2 m3:Mem} (h:Chg p r1 m1 r2 m2) (k:Chg p r2 m2 r3 m3):Chg p r1 m1 r3 m3 :=
 ⟨Nat.le_trans h.size k.size,fun b hb=>by rw [k.role b (Nat.lt_of_lt_of_le hb h.size),h.role b hb],k.new,fun b hb hp=>by
  rw [k.keep b (Nat.lt_of_lt_of_le hb h.size) (by rw [h.role b hb]; exact hp),h.keep b hb hp]⟩
theorem Chg.mono {p q:Nat->Prop} {ro ro':Nat->Nat} {m m':Mem} (h:Chg p ro m ro' m') (hpq:∀ k,p k->q k):Chg q ro m ro' m':=⟨h.size,h.role,h.new,fun b hb hq=>h.keep b hb fun hp=>hq (hpq _ hp)⟩
theorem Chg.ofExt (p:Nat->Prop) {ro:Nat->Nat} {m m':Mem} (h:Ext m m') (hn:∀ b,m.size<=b->ro b=0):Chg p ro m ro m':=⟨h.size,fun _ _=>rfl,fun b hb=>hn b (Nat.le_trans h.size hb),fun b hb _=>h.same b hb⟩
theorem Chg.scells {p:Nat->Prop} {ro:Nat->Nat} {m:Mem} (hn:∀ b,m.size<=b->ro b=0) {b:Nat} (hb:p (ro b)) (o:Nat) (l:List Ce):Chg p ro m ro (scells m b o l) :=
 ⟨Nat.le_of_eq (q02 _ _ _ _).symm,fun _ _=>rfl,fun c hc=>hn c (by rw [q02] at hc; exact hc),fun c _ hp=>q0n _ _ _ _ fun e=>hp (e ▸ hb)⟩
abbrev HC:=Chg (fun k=>k=3 \/ k=5 \/ k=6)
abbrev To:=Chg (fun k=>k ≠ 0/\k ≠ 9)
theorem Chg.base {ro ro':Nat->Nat} {m0 m m':Mem} (h:To ro m ro' m') (hx:Ext m0 m) (h0:∀ b,b < m0.size->ro b=0):Ext m0 m'/\∀ b,b < m0.size->ro' b=0:=by
 have hs:=hx.size
 exact ⟨⟨Nat.le_trans hs h.size,fun b hb=>by rw [h.keep b (by omega) (by simp [h0 b hb]),hx.same b hb]⟩,fun b hb=>by rw [h.role b (by omega),h0 b hb]⟩
theorem Chg.sam {ro ro':Nat->Nat} {m m':Mem} (h:To ro m ro' m') {l:List Nat} (hl:∀ b ∈ l,b < m.size/\ro b=0):Sam l m m':=fun b hb=>h.keep b (hl b hb).1 (by simp [(hl b hb).2])
structure Arr (ro:Nat->Nat) (m:Mem) (e sz k:Nat) (s:Sl) (l:List Ce):Prop where
 len:l.length=s.len*sz
 le:s.len<=s.cap
 at':s.cap=0 \/ ∃ b c tail,s=.mk b 0 s.len c/\ro b=k/\Blk m b e (l ++ tail)/\(l ++ tail).length=c*sz
section
variable {ro ro':Nat->Nat} {m m':Mem} {e sz k:Nat} {s:Sl} {l:List Ce}
theorem Arr.empty (h:Arr ro m e sz k s l) (h0:s.cap=0):l=[]/\s.len=0:=by
 have:=h.le
 have h1:s.len=0:=by omega
 exact ⟨List.length_eq_zero_iff.1 (by rw [h.len,h1]; simp),h1⟩
theorem Arr.row (h:Arr ro m e sz k s l):rowIs m s.blk s.off l:=by
 rcases h.at' with h0 | ⟨b,c,tail,h1,h2,h3,h4⟩
 ·rw [(h.empty h0).1]; intro i c hc; simp at hc
 ·rw [h1]; exact h3.row.pre
theorem Arr.wr (h:Arr ro m e sz k s l) {o n:Nat} (hn:o+n<=l.length):wrOk m s.blk (s.off+o) n:=by
 rcases h.at' with h0 | ⟨b,c,tail,h1,h2,h3,h4⟩
 ·rw [(h.empty h0).1] at hn; intro j hj; simp at hn; omega
 ·rw [h1]; simp only [Sl.blk_mk,Sl.off_mk,Nat.zero_add]; exact h3.wrOk (by simp; omega)
theorem Arr.keep (h:Arr ro m e sz k s l) (hb:s.cap ≠ 0->m'[s.blk]?=m[s.blk]?) (hr:s.cap ≠ 0->ro' s.blk=ro s.blk):Arr ro' m' e sz k s l:=by
 refine ⟨h.len,h.le,?_⟩
 rcases h.at' with h0 | ⟨b,c,tail,h1,h2,h3,h4⟩
 ·exact Or.inl h0
 ·by_cases hc:s.cap=0
  ·exact Or.inl hc
  ·have e1:=hb hc
   have e2:=hr hc
   rw [h1] at e1 e2
   exact Or.inr ⟨b,c,tail,h1,e2.trans h2,h3.congr e1,h4⟩
theorem Arr.blk (h:Arr ro m e sz k s l) (hc:s.cap ≠ 0):s.blk < m.size/\ro s.blk=k:=by
 rcases h.at' with h0 | ⟨b,c,tail,h1,h2,h3,h4⟩
 ·exact absurd h0 hc
 ·rw [h1]; exact ⟨h3.lt,h2⟩
theorem Arr.chg {p:Nat->Prop} (h:Arr ro m e sz k s l) (hc:Chg p ro m ro' m') (hk:¬ p k):Arr ro' m' e sz k s l :=
 h.keep (fun h0=>hc.keep _ (h.blk h0).1 (by rw [(h.blk h0).2]; exact hk)) (fun h0=>hc.role _ (h.blk h0).1)
theorem Arr.set (h:Arr ro m e sz k s l) {o:Nat} {new:List Ce} (hn:o+new.length<=l.length):Arr ro (scells m s.blk (s.off+o) new) e sz k s (setL l o new):=by
 refine ⟨by rw [q3y]; exact h.len,h.le,?_⟩
 rcases h.at' with h0 | ⟨b,c,tail,h1,h2,h3,h4⟩
 ·exact Or.inl h0
 ·refine Or.inr ⟨b,c,tail,h1,h2,?_,by simp only [List.length_append,q3y] at h4 ⊢; exact h4⟩
  have e1:s.blk=b:=by rw [h1]; rfl
  have e2:s.off=0:=by rw [h1]; rfl
  rw [e1,e2,Nat.zero_add]
  have:=Blk.scells (m:=m) (o:=o) (r:=new) h3
  have e3:setL (l ++ tail) o new=setL l o new ++ tail:=by
   have hl':(setL l o new).length=l.length:=q3y _ _ _
   apply List.ext_getElem?
   intro i
   rcases Nat.lt_or_ge i l.length with hi | hi
   ·have r1:(setL l o new ++ tail)[i]?=(setL l o new)[i]?:=List.getElem?_append_left (by rw [hl']; exact hi)
    rw [r1,qde,qde]
    simp only [List.length_append]
    by_cases h5:o<=i/\i < o+new.length
    ·rw [if_pos (by omega),if_pos (by omega)]
    ·rw [if_neg (by omega),if_neg (by omega),List.getElem?_append_left hi]
   ·have r1:(setL l o new ++ tail)[i]?=tail[i - l.length]?:=by rw [List.getElem?_append_right (by rw [hl']; exact hi),hl']
    rw [r1,qde,if_neg (by omega),List.getElem?_append_right hi]
  rw [e3] at this; exact this
theorem Arr.cut (h:Arr ro m e sz k s l) {n:Nat} (hn:n<=s.len):Arr ro m e sz k (s.cut 0 n sz) (l.take (n*sz)):=by
 have hle:=h.le
 have hlen:=h.len
 rcases h.at' with h0 | ⟨b,c,tail,h1,h2,h3,h4⟩
 ·have hn0:n=0:=by omega
  cases s with
  | nil=>exact ⟨by simp [hn0,Sl.cut],by simp [Sl.cut],Or.inl rfl⟩
  | emp b o sp=>exact ⟨by simp [hn0,Sl.cut],by simp [Sl.cut],Or.inl rfl⟩
  | mk b o len cap=>simp at h0; subst h0; exact ⟨by simp [hn0,Sl.cut],by simp [hn0,Sl.cut],Or.inl (by simp [Sl.cut])⟩
 ·rw [h1]
  have hlc:s.len<=c:=by rw [h1] at hle; exact hle
  refine ⟨?_,by simp [Sl.cut]; omega,Or.inr ⟨b,c,l.drop (n*sz) ++ tail,?_,h2,?_,?_⟩⟩
  ·simp only [Sl.cut,Sl.len_mk,List.length_take,Nat.sub_zero]
   have:n*sz<=s.len*sz:=Nat.mul_le_mul_right _ hn
   omega
  ·simp [Sl.cut]
  ·rw [← List.append_assoc,List.take_append_drop]; exact h3
  ·rw [← List.append_assoc,List.take_append_drop]; exact h4
end
theorem Arr.append {ro:Nat->Nat} {m:Mem} {e k:Nat} {zs:List Ce} {bytes:Nat} {s x:Sl} {l new:List Ce} {K:Sl->Mem->Prop} (h:Arr ro m e zs.length k s l) (hnew:∀ b,m.size<=b->ro b=0)
  (hn:new.length=x.len*zs.length) (hr:rowIs m x.blk x.off new) (hb:(s.len+x.len)*bytes<=140737488355328)
  (hk:∀ ro' r m',Arr ro' m' e zs.length k r (l ++ new)->Chg (fun j=>j=k) ro m ro' m'->K r m'):appC m e zs bytes s x K:=by
 have hle:=h.le
 refine ⟨new,hn,hr,fun hfit=>?_,fun hgt=>⟨hb,l,h.len,h.row,fun c hc=>?_⟩⟩
 ·rcases h.at' with h0 | ⟨b,c,tail,h1,h2,h3,h4⟩
  ·have hx0:x.len=0:=by omega
   have hn0:new=[]:=List.length_eq_zero_iff.1 (by rw [hn,hx0]; simp)
   subst hn0
   refine ⟨fun j hj=>by simp at hj,?_⟩
   have hK:=hk ro s _ (by rw [List.append_nil]; exact h) (Chg.refl _ hnew)
   cases s with
   | nil=>exact hK
   | emp b o sp=>exact hK
   | mk b o l1 c=>simp only [hx0,Nat.add_zero]; exact hK
  ·have hlen:=h.len
   have hcap:s.cap=c:=by rw [h1]; rfl
   rw [h1]
   simp only [Sl.blk_mk,Sl.off_mk,Sl.len_mk,Nat.zero_add]
   simp only [List.length_append] at h4
   have hfit2:new.length<=tail.length:=by
    have h6:(s.len+x.len)*zs.length<=c*zs.length:=Nat.mul_le_mul_right _ (by omega)
    rw [Nat.add_mul] at h6
    omega
   refine ⟨h3.wrOk (by simp only [List.length_append]; omega),?_⟩
   have hB:=Blk.scells (m:=m) (b:=b) (e:=e) (r:=new) (o:=s.len*zs.length) h3
   rw [← hlen,qfm l new tail hfit2] at hB
   refine hk ro _ _ ⟨?_,?_,Or.inr ⟨b,c,tail.drop new.length,rfl,h2,?_,?_⟩⟩ (Chg.scells hnew h2 _ _)
   ·simp only [List.length_append,Sl.len_mk,Nat.add_mul]; omega
   ·simp only [Sl.len_mk,Sl.cap_mk]; omega
   ·rw [← hlen]; exact hB
   ·simp only [List.length_append,List.length_drop]; omega
 ·refine hk (fun b=>if b=m.size then k else ro b) _ _ ⟨?_,?_,Or.inr ⟨m.size,c,zrow zs (c - (s.len+x.len)),rfl,by simp,Blk.push _ _ _,?_⟩⟩ ⟨by simp,fun b hb=>if_neg (by omega),fun b hb=>?_,fun b hb _=>by rw [Array.getElem?_push,if_neg (by omega)]⟩
  ·simp only [List.length_append,Sl.len_mk,Nat.add_mul,h.len,hn]
  ·simpa using hc
  ·simp only [List.length_append,q7r,h.len,hn]
   rw [Nat.sub_mul,← Nat.add_mul]
   have:(s.len+x.len)*zs.length<=c*zs.length:=Nat.mul_le_mul_right _ hc
   omega
  ·simp at hb; rw [if_neg (by omega)]; exact hnew b (by omega)
theorem Arr.ofOwn {ro:Nat->Nat} {m0 m:Mem} {e sz k:Nat} {s:Sl} {l:List Ce} (h:Own m0 m e sz s l) (hr:s ≠ .nil->ro s.blk=k):Arr ro m e sz k s l:=by
 refine ⟨h.len,?_,?_⟩
 ·rcases h.at' with h1 | ⟨b,c,tail,h1,h2,h3,h4,h5⟩
  ·rw [h1]; exact Nat.le_refl _
  ·rw [h1]; exact h5
 ·rcases h.at' with h1 | ⟨b,c,tail,h1,h2,h3,h4,h5⟩
  ·rw [h1]; exact Or.inl rfl
  ·refine Or.inr ⟨b,c,tail,h1,?_,h3,h4⟩
   have:=hr (by rw [h1]; simp)
   rw [h1] at this; exact this
theorem Arr.ints {ro:Nat->Nat} {m:Mem} {k:Nat} {s:Sl} {l:List Int} (h:Arr ro m ty_int 1 k s (l.map Ce.i)) (hl:l.length<=9223372036854775807):q03 m s l:=by
 have hlen:s.len=l.length:=by have:=h.len; simp at this; omega
 refine ⟨hlen,h.le,by omega,fun j x hk=>⟨[.i x],rfl,fun i c hc=>?_⟩⟩
 have hi:i=0:=by have:=q04 hc; simp at this; omega
 subst hi
 simp at hc; subst hc
 have:=h.row j (.i x) (by simp [hk])
 simpa using this
theorem qcw (l:List Int) (i:Nat) (v:Int):setL (l.map Ce.i) i [.i v]=(l.set i v).map Ce.i:=by simp [setL,List.map_set]
theorem Arr.setI {ro:Nat->Nat} {m:Mem} {k:Nat} {s:Sl} {l:List Int} (h:Arr ro m ty_int 1 k s (l.map Ce.i)) {i:Int} (h0:0<=i) (h1:i < l.length) (v:Int):Arr ro (scells m s.blk (s.off+i.toNat*1) [.i v]) ty_int 1 k s ((Go.Proofs.YtpggcodlaajceaaGreat.setI l i v).map Ce.i):=by
 have:=h.set (o:=i.toNat) (new:=[.i v]) (by simp; omega)
 rw [qcw] at this
 rw [Nat.mul_one]; exact this
theorem Arr.wrI {ro:Nat->Nat} {m:Mem} {k:Nat} {s:Sl} {l:List Int} (h:Arr ro m ty_int 1 k s (l.map Ce.i)) {i:Int} (h0:0<=i) (h1:i < l.length):wrOk m s.blk (s.off+i.toNat*1) 1:=by
 rw [Nat.mul_one]; exact h.wr (by simp; omega)
def FB (m:Mem) (f:Sl) (l:List Int):Prop:=∃ c tail,f=.mk f.blk 0 f.len c/\Blk m f.blk ty_int (l.map Ce.i ++ tail)
def FN (N:Nat) (ro:Nat->Nat) (m:Mem) (f:Sl) (l:List Int):Prop:=l ≠ []->ro f.blk=0/\N<=f.blk/\FB m f l
def CellL (N:Nat) (ro:Nat->Nat) (m:Mem) (cs:List Ce) (c:Cell):Prop:=∃ f,cs=[.i c.count,.i c.tag,.s f]/\q03 m f c.fields/\FN N ro m f c.fields
def Sep (css:List (List Ce)):Prop:=∀ (i j:Nat) (ci cj:List Ce) (a b:Sl),css[i]?=some ci->css[j]?=some cj->ci[2]?=some (.s a)->cj[2]?=some (.s b)->i ≠ j->a.len ≠ 0->b.len ≠ 0->a.blk ≠ b.blk
theorem Sep.nil:Sep []:=fun i j ci cj a b h=>by simp at h
def q0u (N:Nat) (ro:Nat->Nat) (m:Mem) (hp:Sl) (h:List Cell):Prop:=∃ css,Arr ro m q35 3 3 hp css.flatten/\RowsOf 3 (CellL N ro m) css h/\Sep css
def Frm (ro:Nat->Nat) (m:Mem) (i:Nat) (cs:List Ce) (f:Frame):Prop :=
 ∃ r o h,cs=[.i f.proc,.i f.pc,.i f.dst,.s r,.s o,.s h]/\Arr ro m ty_int 1 (10+3*i) r (f.regs.map Ce.i)/\Arr ro m ty_int 1 (11+3*i) o (f.own.map Ce.i)/\Arr ro m ty_int 1 (12+3*i) h (f.held.map Ce.i)
structure FrmC (ro:Nat->Nat) (m:Mem) (fr:Sl) (fs:List Frame) (css:List (List Ce)):Prop where
 arr:Arr ro m q1l 6 4 fr css.flatten
 len:css.length=fs.length
 size:∀ cs ∈ css,cs.length=6
 each:∀ (i:Nat) (cs:List Ce) (f:Frame),css[i]?=some cs->fs[i]?=some f->Frm ro m i cs f
def FrmL (ro:Nat->Nat) (m:Mem) (fr:Sl) (fs:List Frame):Prop:=∃ css,FrmC ro m fr fs css
theorem q2t {m m':Mem} {f:Sl} {l:List Int} (h:q03 m f l) (hb:l ≠ []->m'[f.blk]?=m[f.blk]?):q03 m' f l:=by
 by_cases hl:l=[]
 ·subst hl; exact ⟨h.len,h.cap,h.lim,by simp⟩
 ·exact ⟨h.len,h.cap,h.lim,fun k x hk=>let ⟨cs,h1,h2⟩:=h.row k x hk; ⟨cs,h1,fun i c hc=>by rw [q16 (hb hl)]; exact h2 i c hc⟩⟩
theorem q2c {m:Mem} {f:Sl} {l:List Int} (h:q03 m f l) (hl:l ≠ []):f.blk < m.size:=by
 cases l with
 | nil=>exact absurd rfl hl
 | cons x l=>exact q5m (h.at' (k:=0) (x:=x) rfl)
theorem CellL.chg {N:Nat} {p:Nat->Prop} {ro ro':Nat->Nat} {m m':Mem} (hc:Chg p ro m ro' m') (h0:¬ p 0) (cs:List Ce) (c:Cell):CellL N ro m cs c->CellL N ro' m' cs c:=fun ⟨f,h1,h2,h3⟩ =>
 ⟨f,h1,q2t h2 fun hne=>hc.keep _ (q2c h2 hne) (by rw [(h3 hne).1]; exact h0),fun hne=>by
  obtain ⟨g1,g2,cc,tail,g3,g4⟩:=h3 hne
  exact ⟨by rw [hc.role _ (q2c h2 hne)]; exact g1,g2,cc,tail,g3,g4.congr (hc.keep _ g4.lt (by rw [g1]; exact h0))⟩⟩
theorem q0u.chg {N:Nat} {p:Nat->Prop} {ro ro':Nat->Nat} {m m':Mem} {hp:Sl} {h:List Cell} (hh:q0u N ro m hp h) (hc:Chg p ro m ro' m') (h0:¬ p 0) (h3:¬ p 3):q0u N ro' m' hp h:=by
 obtain ⟨css,h1,h2,h4⟩:=hh
 exact ⟨css,h1.chg hc h3,h2.mono (CellL.chg hc h0),h4⟩
theorem Frm.chg {p:Nat->Prop} {ro ro':Nat->Nat} {m m':Mem} (hc:Chg p ro m ro' m') {i:Nat} (hp:∀ k,10+3*i<=k->k<=12+3*i->¬ p k) {cs:List Ce} {f:Frame}:Frm ro m i cs f->Frm ro' m' i cs f:=fun ⟨r,o,h,h1,h2,h3,h4⟩ =>
 ⟨r,o,h,h1,h2.chg hc (hp _ (by omega) (by omega)),h3.chg hc (hp _ (by omega) (by omega)),h4.chg hc (hp _ (by omega) (by omega))⟩
theorem FrmL.chg {p:Nat->Prop} {ro ro':Nat->Nat} {m m':Mem} {fr:Sl} {fs:List Frame} (hh:FrmL ro m fr fs) (hc:Chg p ro m ro' m') (hp:∀ k,(k=4 \/ 10<=k)->¬ p k):FrmL ro' m' fr fs:=by
 obtain ⟨css,h⟩:=hh
 exact ⟨css,h.arr.chg hc (hp 4 (by omega)),h.len,h.size,fun i cs f h1 h2=>(h.each i cs f h1 h2).chg hc fun k hk _=>hp k (by omega)⟩
structure Lay (m0:Mem) (ro:Nat->Nat) (m:Mem) (mb e:Nat) (bx:List Ce) (out hp fr:Sl) (lo:List Int) (lh:List Cell) (lf:List Frame):Prop where
 base:Ext m0 m
 base0:∀ b,b < m0.size->ro b=0
 new:∀ b,m.size<=b->ro b=0
 box:Blk m mb e bx
 rob:ro mb=1
 out:Arr ro m ty_int 1 2 out (lo.map Ce.i)
 heap:q0u m0.size ro m hp lh
 frames:FrmL ro m fr lf
section
variable {m0:Mem} {ro ro':Nat->Nat} {m m':Mem} {mb e:Nat} {bx:List Ce} {out hp fr:Sl} {lo:List Int} {lh:List Cell} {lf:List Frame}
theorem Lay.ext (L:Lay m0 ro m mb e bx out hp fr lo lh lf) (hx:Ext m m'):Lay m0 ro m' mb e bx out hp fr lo lh lf/\To ro m ro m':=by
 have hc:∀ p,Chg p ro m ro m':=fun p=>Chg.ofExt p hx L.new
 exact ⟨⟨L.base.trans hx,L.base0,(hc (fun _=>False)).new,L.box.ext hx,L.rob,L.out.chg (hc (fun _=>False)) id,L.heap.chg (hc (fun _=>False)) id id,L.frames.chg (hc (fun _=>False)) fun _ _=>id⟩,hc _⟩
theorem Lay.setBox (L:Lay m0 ro m mb e bx out hp fr lo lh lf) (i:Nat) (cs:List Ce):Lay m0 ro (scells m mb i cs) mb e (setL bx i cs) out hp fr lo lh lf/\To ro m ro (scells m mb i cs):=by
 have hc:Chg (fun k=>k=1) ro m ro (scells m mb i cs):=Chg.scells L.new L.rob _ _
 have hto:To ro m ro (scells m mb i cs):=hc.mono fun k hk=>by omega
 obtain ⟨b1,b2⟩:=hto.base L.base L.base0
 exact ⟨⟨b1,b2,hc.new,Blk.scells (m:=m) L.box,L.rob,L.out.chg hc (by decide),L.heap.chg hc (by decide) (by decide),L.frames.chg hc fun k hk=>by omega⟩,hto⟩
theorem Lay.wrBox (L:Lay m0 ro m mb e bx out hp fr lo lh lf) {i n:Nat} (hi:i+n<=bx.length):wrOk m mb i n:=L.box.wrOk hi
theorem Lay.setHeap (L:Lay m0 ro m mb e bx out hp fr lo lh lf) (hc:Chg (fun k=>k=3 \/ k=5 \/ k=6) ro m ro' m') {hp':Sl} {lh':List Cell} (hh:q0u m0.size ro' m' hp' lh'):Lay m0 ro' m' mb e bx out hp' fr lo lh' lf/\To ro m ro' m':=by
 have hto:To ro m ro' m':=hc.mono fun k hk=>by omega
 obtain ⟨b1,b2⟩:=hto.base L.base L.base0
 exact ⟨⟨b1,b2,hc.new,L.box.congr (hc.keep _ L.box.lt (by rw [L.rob]; decide)),by rw [hc.role _ L.box.lt]; exact L.rob,L.out.chg hc (by decide),hh,L.frames.chg hc fun k hk=>by omega⟩,hto⟩
theorem Lay.setOut (L:Lay m0 ro m mb e bx out hp fr lo lh lf) (hc:Chg (fun k=>k=2) ro m ro' m') {out':Sl} {lo':List Int} (hh:Arr ro' m' ty_int 1 2 out' (lo'.map Ce.i)):Lay m0 ro' m' mb e bx out' hp fr lo' lh lf/\To ro m ro' m':=by
 have hto:To ro m ro' m':=hc.mono fun k hk=>by omega
 obtain ⟨b1,b2⟩:=hto.base L.base L.base0
 exact ⟨⟨b1,b2,hc.new,L.box.congr (hc.keep _ L.box.lt (by rw [L.rob]; decide)),by rw [hc.role _ L.box.lt]; exact L.rob,hh,L.heap.chg hc (by decide) (by decide),L.frames.chg hc fun k hk=>by omega⟩,hto⟩
theorem Lay.setFrames (L:Lay m0 ro m mb e bx out hp fr lo lh lf) (hc:Chg (fun k=>4<=k/\k ≠ 9) ro m ro' m') {fr':Sl} {lf':List Frame} (hh:FrmL ro' m' fr' lf'):Lay m0 ro' m' mb e bx out hp fr' lo lh lf'/\To ro m ro' m':=by
 have hto:To ro m ro' m':=hc.mono fun k hk=>by omega
 obtain ⟨b1,b2⟩:=hto.base L.base L.base0
 exact ⟨⟨b1,b2,hc.new,L.box.congr (hc.keep _ L.box.lt (by rw [L.rob]; decide)),by rw [hc.role _ L.box.lt]; exact L.rob,L.out.chg hc (by decide),L.heap.chg hc (by decide) (by decide),hh⟩,hto⟩
end
end
section
theorem qqm (l r:List Ce) (o:Nat) (c:Ce) (h:l.length<=o):(l ++ r).set o c=l ++ r.set (o - l.length) c:=by
 rw [List.set_append_right _ _ h]
theorem setL_app_right:∀ (new l r:List Ce) (o:Nat),l.length<=o->setL (l ++ r) o new=l ++ setL r (o - l.length) new
 | [],l,r,o,_=>rfl
 | c :: new,l,r,o,h=>by
  simp only [setL]
  rw [qqm _ _ _ _ h,setL_app_right new l _ (o+1) (by omega)]
  congr 2; omega
theorem qh8:∀ (new l r:List Ce) (o:Nat),o+new.length<=l.length->setL (l ++ r) o new=setL l o new ++ r
 | [],l,r,o,_=>rfl
 | c :: new,l,r,o,h=>by
  simp only [List.length_cons] at h
  simp only [setL]
  rw [List.set_append_left _ _ (by omega),qh8 new _ _ (o+1) (by simp; omega)]
theorem qe5 {sz:Nat}:∀ (css:List (List Ce)) (a:Nat) (cs:List Ce) (o:Nat) (new:List Ce),(∀ c ∈ css,c.length=sz)->css[a]?=some cs->o+new.length<=sz->setL css.flatten (a*sz+o) new=(css.set a (setL cs o new)).flatten
 | [],a,cs,o,new,_,h,_=>by simp at h
 | x :: css,0,cs,o,new,hl,h,ho=>by
  simp at h; subst h
  have hx:=hl x List.mem_cons_self
  rw [List.flatten_cons,Nat.zero_mul,Nat.zero_add,qh8 _ _ _ _ (by omega),List.set_cons_zero,List.flatten_cons]
 | x :: css,a+1,cs,o,new,hl,h,ho=>by
  have hx:=hl x List.mem_cons_self
  rw [List.flatten_cons,setL_app_right _ _ _ _ (by rw [hx,Nat.add_mul]; omega),List.set_cons_succ,List.flatten_cons]
  have e:(a+1)*sz+o - x.length=a*sz+o:=by rw [hx,Nat.add_mul]; omega
  rw [e,qe5 css a cs o new (fun c hc=>hl c (List.mem_cons_of_mem _ hc)) (by simpa using h) ho]
theorem _root_.Go.Vc.RowsOf.set {α:Type} {sz:Nat} {R:List Ce->α->Prop} {css:List (List Ce)} {l:List α} (h:RowsOf sz R css l) (a:Nat) {cs:List Ce} {x:α} (hs:cs.length=sz) (hx:R cs x):RowsOf sz R (css.set a cs) (l.set a x):=by
 refine ⟨by simp [h.len],fun c hc=>?_,fun j c y hc hy=>?_⟩
 ·rcases List.mem_or_eq_of_mem_set hc with hc | hc
  ·exact h.size c hc
  ·rw [hc]; exact hs
 ·by_cases hj:j=a
  ·subst hj
   have h1:=q04 hc
   have h2:=q04 hy
   simp at h1 h2
   rw [List.getElem?_set_self h1] at hc
   rw [List.getElem?_set_self h2] at hy
   simp at hc hy; subst hc; subst hy; exact hx
  ·rw [List.getElem?_set_ne (fun e=>hj e.symm)] at hc hy
   exact h.each j c y hc hy
theorem _root_.Go.Vc.RowsOf.take {α:Type} {sz:Nat} {R:List Ce->α->Prop} {css:List (List Ce)} {l:List α} (h:RowsOf sz R css l) (n:Nat):RowsOf sz R (css.take n) (l.take n):=by
 refine ⟨by simp [h.len],fun c hc=>h.size c (List.mem_of_mem_take hc),fun j c y hc hy=>?_⟩
 have h1:=q04 hc
 simp at h1
 rw [List.getElem?_take_of_lt (by omega)] at hc hy
 exact h.each j c y hc hy
theorem qke {sz:Nat}:∀ (css:List (List Ce)) (n:Nat),(∀ c ∈ css,c.length=sz)->css.flatten.take (n*sz)=(css.take n).flatten
 | [],n,_=>by simp
 | x :: css,0,_=>by simp
 | x :: css,n+1,h=>by
  have hx:=h x List.mem_cons_self
  rw [List.flatten_cons,List.take_append,List.take_of_length_le (by rw [hx,Nat.add_mul]; omega),List.take_succ_cons,List.flatten_cons]
  have e:(n+1)*sz - x.length=n*sz:=by rw [hx,Nat.add_mul]; omega
  rw [e,qke css n fun c hc=>h c (List.mem_cons_of_mem _ hc)]
section
variable {N:Nat} {ro:Nat->Nat} {m:Mem} {hp:Sl} {h:List Cell}
theorem q0u.len (hh:q0u N ro m hp h):hp.len=h.length:=by
 obtain ⟨css,h1,h2,_⟩:=hh
 have:=h1.len
 rw [q0g h2.size,h2.len] at this
 omega
theorem q0u.get (hh:q0u N ro m hp h) {a:Nat} {c:Cell} (hc:h[a]?=some c):∃ f,gcell m hp.blk (hp.off+a*3)=some (vi c.count)/\gcell m hp.blk (hp.off+a*3+1)=some (vi c.tag)/\gcell m hp.blk (hp.off+a*3+2)=some (Sl.v f)/\q03 m f c.fields/\FN N ro m f c.fields:=by
 obtain ⟨css,h1,h2,_⟩:=hh
 obtain ⟨cs,hcs⟩:=q00 (l:=css) (k:=a) (by rw [h2.len]; exact q04 hc)
 obtain ⟨f,rfl,hf,h0⟩:=h2.each a cs c hcs hc
 have r:=fun i c hc=>h1.row (a*3+i) c (q1z h2.size hcs hc)
 exact ⟨f,r 0 (.i c.count) rfl,r 1 (.i c.tag) rfl,r 2 (.s f) rfl,hf,h0⟩
theorem q0u.cells (hh:q0u N ro m hp h) (hl:h.length<=9223372036854775807):q0h m hp h:=by
 have hlen:=hh.len
 obtain ⟨css,h1,h2,_⟩:=hh
 refine ⟨hlen,h1.le,by omega,fun k x hk=>?_⟩
 obtain ⟨cs,hcs⟩:=q00 (l:=css) (k:=k) (by rw [h2.len]; exact q04 hk)
 obtain ⟨f,rfl,hf,h0⟩:=h2.each k cs x hcs hk
 refine ⟨_,⟨f,rfl,hf⟩,fun i c hc=>?_⟩
 have:=h1.row (k*3+i) c (q1z h2.size hcs hc)
 rwa [← Nat.add_assoc] at this
theorem q0u.wr (hh:q0u N ro m hp h) {a o n:Nat} (ha:a < h.length) (ho:o+n<=3):wrOk m hp.blk (hp.off+a*3+o) n:=by
 obtain ⟨css,h1,h2,_⟩:=hh
 rw [Nat.add_assoc]
 exact h1.wr (by rw [q0g h2.size,h2.len]; have:(a+1)*3<=h.length*3:=Nat.mul_le_mul_right _ ha; omega)
theorem q0u.blk (hh:q0u N ro m hp h) {a:Nat} (ha:a < h.length):ro hp.blk=3/\hp.blk < m.size:=by
 have hl:=hh.len
 obtain ⟨css,h1,h2,_⟩:=hh
 have:=h1.le
 have:=h1.blk (by omega)
 exact ⟨this.2,this.1⟩
def FOk (N:Nat) (ro:Nat->Nat) (m:Mem) (hp:Sl) (h:List Cell) (f:Sl) (l:List Int):Prop :=
 l ≠ []->(ro f.blk=0/\N<=f.blk/\FB m f l)/\∀ (i:Nat) (g:Sl),i < h.length->gcell m hp.blk (hp.off+i*3+2)=some (Sl.v g)->g.len ≠ 0->g.blk ≠ f.blk
theorem FB.ofOwn {m0:Mem} {f:Sl} {l:List Int} (h:Own m0 m ty_int 1 f (l.map Ce.i)) (hl:l ≠ []):m0.size<=f.blk/\FB m f l:=by
 rcases h.at' with e | ⟨b,c,tail,e,h2,h3,_,_⟩
 ·have h1:=h.len; rw [e,List.length_map,Sl.len_nil,Nat.zero_mul] at h1; exact absurd (List.length_eq_zero_iff.1 h1) hl
 ·rw [e]; exact ⟨h2,c,tail,rfl,h3⟩
theorem FOk.of {mA:Mem} {roA:Nat->Nat} {f:Sl} {l:List Int} (hhA:q0u N roA mA hp h) (hk:0 < h.length->m[hp.blk]?=mA[hp.blk]?) (ho:l ≠ []->Own mA m ty_int 1 f (l.map Ce.i)) (h0:l ≠ []->ro f.blk=0) (hN:N<=mA.size):FOk N ro m hp h f l:=fun hl=>by
 obtain ⟨h1,h2⟩:=FB.ofOwn (ho hl) hl
 refine ⟨⟨h0 hl,by omega,h2⟩,fun i g hi hg hgl=>?_⟩
 obtain ⟨c,hc⟩:=q00 hi
 obtain ⟨g',_,_,k2,kf,_⟩:=hhA.get hc
 rw [q16 (hk (by omega)),k2] at hg
 have:=Sl.v_inj.1 (Option.some.inj hg)
 subst this
 have hne:c.fields ≠ []:=fun e=>by have:=kf.len; rw [e] at this; simp at this; exact hgl this
 have:=q2c kf hne
 omega
theorem q0u.put (hh:q0u N ro m hp h) (hnew:∀ b,m.size<=b->ro b=0) {a o:Nat} {c c':Cell} (hc:h[a]?=some c) {new:List Ce} (ho:o+new.length<=3)
  (hcell:∀ f,q03 m f c.fields->FN N ro m f c.fields->∃ f',setL [.i c.count,.i c.tag,.s f] o new=[.i c'.count,.i c'.tag,.s f']/\q03 m f' c'.fields/\FN N ro m f' c'.fields/\(f'=f \/ FOk N ro m hp h f' c'.fields)) :
  q0u N ro (scells m hp.blk (hp.off+a*3+o) new) hp (h.set a c')/\Chg (fun k=>k=3) ro m ro (scells m hp.blk (hp.off+a*3+o) new):=by
 have hlt:=q04 hc
 have hblk:=hh.blk hlt
 have hchg:Chg (fun k=>k=3) ro m ro (scells m hp.blk (hp.off+a*3+o) new):=Chg.scells hnew hblk.1 _ _
 obtain ⟨css,h1,h2,h4⟩:=hh
 obtain ⟨cs,hcs⟩:=q00 (l:=css) (k:=a) (by rw [h2.len]; exact hlt)
 obtain ⟨f,rfl,hf,h0⟩:=h2.each a cs c hcs hc
 obtain ⟨f',e1,hf',h0',hd⟩:=hcell f hf h0
 have key:∀ (j:Nat) (cj:List Ce) (b:Sl),css[j]?=some cj->cj[2]?=some (.s b)->j ≠ a->f'.len ≠ 0->b.len ≠ 0->f'.blk ≠ b.blk:=fun j cj b hj hb hja h5 h6=>by
  rcases hd with rfl | hd
  ·exact h4 a j _ cj f' b hcs hj rfl hb (fun e=>hja e.symm) h5 h6
  ·have hne:c'.fields ≠ []:=fun e=>by have:=hf'.len; rw [e] at this; simp at this; exact h5 this
   refine Ne.symm ((hd hne).2 j b (by rw [← h2.len]; exact q04 hj) ?_ h6)
   have:=h1.row (j*3+2) _ (q1z h2.size hj hb)
   rwa [← Nat.add_assoc] at this
 refine ⟨⟨css.set a (setL [.i c.count,.i c.tag,.s f] o new),?_,?_,?_⟩,hchg⟩
 ·rw [← qe5 css a _ o new h2.size hcs ho,Nat.add_assoc]
  exact h1.set (by rw [q0g h2.size,h2.len]; have:(a+1)*3<=h.length*3:=Nat.mul_le_mul_right _ hlt; omega)
 ·rw [e1]
  exact (h2.set a rfl ⟨f',rfl,hf',h0'⟩).mono (CellL.chg hchg (by decide))
 ·rw [e1]
  have hal:=q04 hcs
  intro i j ci cj x y hi hj hx hy hij h5 h6
  by_cases ia:i=a
  ·subst ia
   rw [List.getElem?_set_self hal] at hi
   rw [List.getElem?_set_ne hij] at hj
   simp at hi; subst hi
   simp at hx; subst hx
   exact key j cj y hj hy (fun e=>hij e.symm) h5 h6
  ·rw [List.getElem?_set_ne (fun e=>ia e.symm)] at hi
   by_cases ja:j=a
   ·subst ja
    rw [List.getElem?_set_self hal] at hj
    simp at hj; subst hj
    simp at hy; subst hy
    exact Ne.symm (key i ci x hi hx hij h6 h5)
   ·rw [List.getElem?_set_ne (fun e=>ja e.symm)] at hj
    exact h4 i j ci cj x y hi hj hx hy hij h5 h6
theorem q0u.setCount (hh:q0u N ro m hp h) (hnew:∀ b,m.size<=b->ro b=0) {a:Nat} {c:Cell} (hc:h[a]?=some c) (n:Int) :
  q0u N ro (scells m hp.blk (hp.off+a*3) [.i n]) hp (h.set a { c with count:=n })/\Chg (fun k=>k=3) ro m ro (scells m hp.blk (hp.off+a*3) [.i n]) :=
 hh.put hnew hc (o:=0) (new:=[.i n]) (by simp) fun f hf h0=>⟨f,rfl,hf,h0,Or.inl rfl⟩
theorem q0u.setCell (hh:q0u N ro m hp h) (hnew:∀ b,m.size<=b->ro b=0) {a:Nat} (ha:a < h.length) (n t:Int) {f:Sl} {l:List Int} (hf:q03 m f l) (h0:FOk N ro m hp h f l) :
  q0u N ro (scells m hp.blk (hp.off+a*3) [.i n,.i t,.s f]) hp (h.set a ⟨n,t,l⟩)/\Chg (fun k=>k=3) ro m ro (scells m hp.blk (hp.off+a*3) [.i n,.i t,.s f]):=by
 obtain ⟨c,hc⟩:=q00 ha
 exact hh.put hnew hc (o:=0) (new:=[.i n,.i t,.s f]) (by simp) fun f1 hf1 h01=>⟨f,rfl,hf,fun hl=>(h0 hl).1,Or.inr h0⟩
theorem q0u.cut (hh:q0u N ro m hp h) {n:Nat} (hn:n<=h.length):q0u N ro m (hp.cut 0 n 3) (h.take n):=by
 have hl:=hh.len
 obtain ⟨css,h1,h2,h4⟩:=hh
 refine ⟨css.take n,by rw [← qke css n h2.size]; exact h1.cut (by omega),h2.take n,fun i j ci cj a b hi hj=>?_⟩
 have hin:i < n:=by have:=q04 hi; simp at this; omega
 have hjn:j < n:=by have:=q04 hj; simp at this; omega
 rw [List.getElem?_take_of_lt hin] at hi
 rw [List.getElem?_take_of_lt hjn] at hj
 exact h4 i j ci cj a b hi hj
theorem q0u.push (hh:q0u N ro m hp h) (hnew:∀ b,m.size<=b->ro b=0) {x:Sl} (hx:x.len=1) {n t:Int} {f:Sl} {l:List Int} (hr:rowIs m x.blk x.off [.i n,.i t,.s f]) (hf:q03 m f l) (h0:FOk N ro m hp h f l) (hsm:h.length<=2000000000) {K:Sl->Mem->Prop}
  (hk:∀ ro' r m',q0u N ro' m' r (h ++ [⟨n,t,l⟩])->Chg (fun k=>k=3) ro m ro' m'->K r m'):appC m q35 [.i (0:Int),.i (0:Int),.s Sl.nil] 40 hp x K:=by
 have hlen:=hh.len
 obtain ⟨css,h1,h2,h4⟩:=hh
 refine Arr.append (zs:=[.i 0,.i 0,.s .nil]) (new:=[.i n,.i t,.s f]) h1 hnew (by simp [hx]) hr (by omega) fun ro' r m' q1 q2=>hk ro' r m' ⟨css ++ [[.i n,.i t,.s f]],by simpa using q1,?_,?_⟩ q2
 ·exact (h2.snoc (cs:=[.i n,.i t,.s f]) (x:=⟨n,t,l⟩) rfl ⟨f,rfl,hf,fun hl=>(h0 hl).1⟩).mono (CellL.chg q2 (by decide))
 have key:∀ (j:Nat) (cj:List Ce) (b:Sl),css[j]?=some cj->cj[2]?=some (.s b)->f.len ≠ 0->b.len ≠ 0->f.blk ≠ b.blk:=fun j cj b hj hb h5 h6=>by
  have hne:l ≠ []:=fun e=>by have:=hf.len; rw [e] at this; simp at this; exact h5 this
  refine Ne.symm ((h0 hne).2 j b (by rw [← h2.len]; exact q04 hj) ?_ h6)
  have:=h1.row (j*3+2) _ (q1z h2.size hj hb)
  rwa [← Nat.add_assoc] at this
 have last:∀ {i:Nat} {ci:List Ce} {a:Sl},(css ++ [[.i n,.i t,.s f]])[i]?=some ci->ci[2]?=some (.s a)->css[i]?=some ci \/ (i=css.length/\a=f):=fun {i ci a} hi ha=>by
  rcases Nat.lt_or_ge i css.length with h5 | h5
  ·rw [List.getElem?_append_left h5] at hi; exact Or.inl hi
  ·rw [List.getElem?_append_right h5] at hi
   have h6:i - css.length=0:=by have:=q04 hi; simp at this; omega
   rw [h6] at hi
   simp at hi; subst hi; simp at ha
   exact Or.inr ⟨by omega,ha.symm⟩
 intro i j ci cj a b hi hj ha hb hij h5 h6
 rcases last hi ha with h7 | ⟨h7,rfl⟩
 ·rcases last hj hb with h8 | ⟨h8,rfl⟩
  ·exact h4 i j ci cj a b h7 h8 ha hb hij h5 h6
  ·exact Ne.symm (key i ci a h7 ha h6 h5)
 ·rcases last hj hb with h8 | ⟨h8,rfl⟩
  ·exact key j cj b h8 hb h5 h6
  ·omega
end
structure Top (ro:Nat->Nat) (m:Mem) (fr:Sl) (fs:List Frame) (f:Frame) (r o h:Sl) (css:List (List Ce)):Prop where
 arr:Arr ro m q1l 6 4 fr (css.flatten ++ [.i f.proc,.i f.pc,.i f.dst,.s r,.s o,.s h])
 len:css.length=fs.length
 size:∀ cs ∈ css,cs.length=6
 each:∀ (i:Nat) (cs:List Ce) (g:Frame),css[i]?=some cs->fs[i]?=some g->Frm ro m i cs g
 regs:Arr ro m ty_int 1 (10+3*fs.length) r (f.regs.map Ce.i)
 own:Arr ro m ty_int 1 (11+3*fs.length) o (f.own.map Ce.i)
 held:Arr ro m ty_int 1 (12+3*fs.length) h (f.held.map Ce.i)
section
variable {ro ro':Nat->Nat} {m m':Mem} {fr:Sl} {fs:List Frame} {f:Frame} {r o h:Sl} {css:List (List Ce)}
theorem FrmL.top (hh:FrmL ro m fr (fs ++ [f])):∃ r o h css,Top ro m fr fs f r o h css:=by
 obtain ⟨css,h1,h2,h3,h4⟩:=hh
 have hne:css ≠ []:=fun e=>by rw [e] at h2; simp at h2
 have e:css=css.dropLast ++ [css.getLast hne]:=(List.dropLast_concat_getLast hne).symm
 generalize css.dropLast=c0 at e
 generalize css.getLast hne=cl at e
 subst e
 have hl:c0.length=fs.length:=by simpa using h2
 obtain ⟨r,o,h,rfl,hr,ho,hh⟩:=h4 fs.length cl f (by rw [List.getElem?_append_right (by omega)]; simp [hl]) (by simp)
 refine ⟨r,o,h,c0,by simpa using h1,hl,fun cs hc=>h3 cs (by simp [hc]),fun i cs g h5 h6=>h4 i cs g ?_ ?_,hr,ho,hh⟩
 ·rw [List.getElem?_append_left (q04 h5)]; exact h5
 ·rw [List.getElem?_append_left (q04 h6)]; exact h6
theorem Top.frm (T:Top ro m fr fs f r o h css):FrmL ro m fr (fs ++ [f]):=by
 refine ⟨css ++ [[.i f.proc,.i f.pc,.i f.dst,.s r,.s o,.s h]],by simpa using T.arr,by simp [T.len],fun cs hc=>?_,fun i cs g h1 h2=>?_⟩
 ·rcases List.mem_append.1 hc with hc | hc
  ·exact T.size cs hc
  ·simp at hc; subst hc; rfl
 ·rcases Nat.lt_or_ge i fs.length with hi | hi
  ·rw [List.getElem?_append_left (by rw [T.len]; exact hi)] at h1
   rw [List.getElem?_append_left hi] at h2
   exact T.each i cs g h1 h2
  ·have hi2:i=fs.length:=by have:=q04 h2; simp at this; omega
   subst hi2
   rw [List.getElem?_append_right (by rw [T.len]; omega)] at h1
   simp [T.len] at h1 h2
   subst h1; subst h2
   exact ⟨r,o,h,rfl,T.regs,T.own,T.held⟩
theorem Top.frLen (T:Top ro m fr fs f r o h css):fr.len=fs.length+1:=by
 have:=T.arr.len
 simp only [List.length_append,q0g T.size,T.len,List.length_cons,List.length_nil] at this
 omega
theorem Top.row (T:Top ro m fr fs f r o h css):gcell m fr.blk (fr.off+fs.length*6)=some (vi f.proc)/\gcell m fr.blk (fr.off+fs.length*6+1)=some (vi f.pc)/\gcell m fr.blk (fr.off+fs.length*6+2)=some (vi f.dst) /\
  gcell m fr.blk (fr.off+fs.length*6+3)=some (Sl.v r)/\gcell m fr.blk (fr.off+fs.length*6+4)=some (Sl.v o)/\gcell m fr.blk (fr.off+fs.length*6+5)=some (Sl.v h):=by
 have hl:css.flatten.length=fs.length*6:=by rw [q0g T.size,T.len]
 have r1:=fun (i:Nat) (c:Ce) (hc:[Ce.i f.proc,Ce.i f.pc,Ce.i f.dst,Ce.s r,Ce.s o,Ce.s h][i]?=some c)=>T.arr.row (fs.length*6+i) c (by rw [List.getElem?_append_right (by omega),hl,Nat.add_sub_cancel_left]; exact hc)
 exact ⟨r1 0 (.i f.proc) rfl,r1 1 (.i f.pc) rfl,r1 2 (.i f.dst) rfl,r1 3 (.s r) rfl,r1 4 (.s o) rfl,r1 5 (.s h) rfl⟩
theorem Top.chg {p:Nat->Prop} (T:Top ro m fr fs f r o h css) (hc:Chg p ro m ro' m') (hp:∀ k,(k=4 \/ 10<=k)->¬ p k):Top ro' m' fr fs f r o h css :=
 ⟨T.arr.chg hc (hp _ (by omega)),T.len,T.size,fun i cs g h1 h2=>(T.each i cs g h1 h2).chg hc fun k hk _=>hp k (by omega),T.regs.chg hc (hp _ (by omega)),T.own.chg hc (hp _ (by omega)),T.held.chg hc (hp _ (by omega))⟩
theorem Top.ext (T:Top ro m fr fs f r o h css) (hn:∀ b,m.size<=b->ro b=0) (hx:Ext m m'):Top ro m' fr fs f r o h css:=T.chg (Chg.ofExt (fun _=>False) hx hn) fun _ _=>id
theorem Top.outer {p:Nat->Prop} (T:Top ro m fr fs f r o h css) (hc:Chg p ro m ro' m') (hp:∀ k,10<=k->k < 10+3*fs.length->¬ p k):∀ (i:Nat) (cs:List Ce) (g:Frame),css[i]?=some cs->fs[i]?=some g->Frm ro' m' i cs g:=fun i cs g h1 h2 =>
 (T.each i cs g h1 h2).chg hc fun k hk _=>hp k (by omega) (by have:=q04 h2; omega)
theorem Top.setReg (T:Top ro m fr fs f r o h css) (hn:∀ b,m.size<=b->ro b=0) {i:Int} (h0:0<=i) (h1:i < f.regs.length) (v:Int) :
  Top ro (scells m r.blk (r.off+i.toNat*1) [.i v]) fr fs { f with regs:=setI f.regs i v } r o h css/\Chg (fun k=>4<=k/\k ≠ 9) ro m ro (scells m r.blk (r.off+i.toNat*1) [.i v]):=by
 have hc0:r.cap ≠ 0:=fun e=>by have:=(T.regs.empty e).1; simp at this; rw [this] at h1; simp at h1; omega
 have hb:=T.regs.blk hc0
 have hc:Chg (fun k=>k=10+3*fs.length) ro m ro (scells m r.blk (r.off+i.toNat*1) [.i v]):=Chg.scells hn hb.2 _ _
 exact ⟨⟨T.arr.chg hc (by omega),T.len,T.size,T.outer hc fun k _ h3=>by omega,T.regs.setI h0 h1 v,T.own.chg hc (by omega),T.held.chg hc (by omega)⟩,hc.mono fun k hk=>by omega⟩
theorem Top.setOwn (T:Top ro m fr fs f r o h css) (hn:∀ b,m.size<=b->ro b=0) {i:Int} (h0:0<=i) (h1:i < f.own.length) (v:Int) :
  Top ro (scells m o.blk (o.off+i.toNat*1) [.i v]) fr fs { f with own:=setI f.own i v } r o h css/\Chg (fun k=>4<=k/\k ≠ 9) ro m ro (scells m o.blk (o.off+i.toNat*1) [.i v]):=by
 have hc0:o.cap ≠ 0:=fun e=>by have:=(T.own.empty e).1; simp at this; rw [this] at h1; simp at h1; omega
 have hb:=T.own.blk hc0
 have hc:Chg (fun k=>k=11+3*fs.length) ro m ro (scells m o.blk (o.off+i.toNat*1) [.i v]):=Chg.scells hn hb.2 _ _
 exact ⟨⟨T.arr.chg hc (by omega),T.len,T.size,T.outer hc fun k _ h3=>by omega,T.regs.chg hc (by omega),T.own.setI h0 h1 v,T.held.chg hc (by omega)⟩,hc.mono fun k hk=>by omega⟩
theorem Top.setHeld (T:Top ro m fr fs f r o h css) (hn:∀ b,m.size<=b->ro b=0) {i:Int} (h0:0<=i) (h1:i < f.held.length) (v:Int) :
  Top ro (scells m h.blk (h.off+i.toNat*1) [.i v]) fr fs { f with held:=setI f.held i v } r o h css/\Chg (fun k=>4<=k/\k ≠ 9) ro m ro (scells m h.blk (h.off+i.toNat*1) [.i v]):=by
 have hc0:h.cap ≠ 0:=fun e=>by have:=(T.held.empty e).1; simp at this; rw [this] at h1; simp at h1; omega
 have hb:=T.held.blk hc0
 have hc:Chg (fun k=>k=12+3*fs.length) ro m ro (scells m h.blk (h.off+i.toNat*1) [.i v]):=Chg.scells hn hb.2 _ _
 exact ⟨⟨T.arr.chg hc (by omega),T.len,T.size,T.outer hc fun k _ h3=>by omega,T.regs.chg hc (by omega),T.own.chg hc (by omega),T.held.setI h0 h1 v⟩,hc.mono fun k hk=>by omega⟩
theorem Top.blk (T:Top ro m fr fs f r o h css):ro fr.blk=4/\fr.blk < m.size:=by
 have:=T.frLen
 have:=T.arr.le
 have:=T.arr.blk (by omega)
 exact ⟨this.2,this.1⟩
theorem Top.setPc (T:Top ro m fr fs f r o h css) (hn:∀ b,m.size<=b->ro b=0) (v:Int) :
  Top ro (scells m fr.blk (fr.off+fs.length*6+1) [.i v]) fr fs { f with pc:=v } r o h css/\Chg (fun k=>4<=k/\k ≠ 9) ro m ro (scells m fr.blk (fr.off+fs.length*6+1) [.i v]):=by
 have hb:=T.blk
 have hc:Chg (fun k=>k=4) ro m ro (scells m fr.blk (fr.off+fs.length*6+1) [.i v]):=Chg.scells hn hb.1 _ _
 refine ⟨⟨?_,T.len,T.size,T.outer hc fun k h2 h3=>by omega,T.regs.chg hc (by omega),T.own.chg hc (by omega),T.held.chg hc (by omega)⟩,hc.mono fun k hk=>by omega⟩
 have hl:css.flatten.length=fs.length*6:=by rw [q0g T.size,T.len]
 have:=T.arr.set (o:=fs.length*6+1) (new:=[.i v]) (by simp [hl])
 rw [setL_app_right _ _ _ _ (by omega),hl,Nat.add_sub_cancel_left] at this
 rw [Nat.add_assoc]; exact this
theorem Top.wrPc (T:Top ro m fr fs f r o h css):wrOk m fr.blk (fr.off+fs.length*6+1) 1:=by
 rw [Nat.add_assoc]
 exact T.arr.wr (by simp only [List.length_append,q0g T.size,T.len,List.length_cons,List.length_nil]; omega)
end
theorem FrmL.pop {ro:Nat->Nat} {m:Mem} {fr:Sl} {fs:List Frame} {f:Frame} (hh:FrmL ro m fr (fs ++ [f])):FrmL ro m (fr.cut 0 fs.length 6) fs:=by
 obtain ⟨r,o,h,css,T⟩:=hh.top
 have hl:css.flatten.length=fs.length*6:=by rw [q0g T.size,T.len]
 have:=T.arr.cut (n:=fs.length) (by rw [T.frLen]; omega)
 rw [List.take_append_of_le_length (by omega),List.take_of_length_le (by omega)] at this
 exact ⟨css,this,T.len,T.size,T.each⟩
theorem FrmL.push {ro:Nat->Nat} {m:Mem} {fr:Sl} {fs:List Frame} (hh:FrmL ro m fr fs) (hn:∀ b,m.size<=b->ro b=0) {x:Sl} (hx:x.len=1) {f:Frame} {r o h:Sl} (hr:rowIs m x.blk x.off [.i f.proc,.i f.pc,.i f.dst,.s r,.s o,.s h])
  (h1:Arr ro m ty_int 1 (10+3*fs.length) r (f.regs.map Ce.i)) (h2:Arr ro m ty_int 1 (11+3*fs.length) o (f.own.map Ce.i)) (h3:Arr ro m ty_int 1 (12+3*fs.length) h (f.held.map Ce.i)) (hsm:fs.length<=1000000) {K:Sl->Mem->Prop}
  (hk:∀ ro' r m',FrmL ro' m' r (fs ++ [f])->Chg (fun k=>k=4) ro m ro' m'->K r m'):appC m q1l [.i (0:Int),.i (0:Int),.i (0:Int),.s Sl.nil,.s Sl.nil,.s Sl.nil] 96 fr x K:=by
 obtain ⟨css,q1,q2,q3,q4⟩:=hh
 have hfl:fr.len=fs.length:=by have:=q1.len; rw [q0g q3,q2] at this; omega
 refine Arr.append (zs:=[.i 0,.i 0,.i 0,.s .nil,.s .nil,.s .nil]) (new:=[.i f.proc,.i f.pc,.i f.dst,.s r,.s o,.s h]) q1 hn (by simp [hx]) hr (by omega) fun ro' s m' p1 p2=>hk ro' s m' ?_ p2
 exact Top.frm (f:=f) (fs:=fs) (css:=css) (r:=r) (o:=o) (h:=h) ⟨by simpa using p1,q2,q3,fun i cs g h5 h6=>(q4 i cs g h5 h6).chg p2 fun k hk _=>by omega,h1.chg p2 (by omega),h2.chg p2 (by omega),h3.chg p2 (by omega)⟩
end
section
theorem qet:∀ (h:List Cell) (k:Nat),k<=h.length->(∀ c ∈ h.take k,c.count ≠ 0)->k<=q0t h
 | [],k,hk,_=>by simp at hk; simp [hk]
 | c :: h,0,_,_=>Nat.zero_le _
 | c :: h,k+1,hk,hn=>by
  have h1:=hn c (by simp)
  have:=qet h k (by simpa using hk) (fun d hd=>hn d (by simp [hd]))
  simp only [q0t]; rw [if_neg h1]; omega
theorem qjs:∀ (h:List Cell) (k:Nat) (c:Cell),(∀ d ∈ h.take k,d.count ≠ 0)->h[k]?=some c->c.count=0->q0t h=k
 | [],k,c,_,hc,_=>by simp at hc
 | d :: h,0,c,_,hc,h0=>by simp at hc; subst hc; simp [q0t,h0]
 | d :: h,k+1,c,hn,hc,h0=>by
  have h1:=hn d (by simp)
  have:=qjs h k c (fun x hx=>hn x (by simp [hx])) (by simpa using hc) h0
  simp only [q0t]; rw [if_neg h1,this]
theorem qln {m:Mem} {hp:Sl} {h:List Cell} (hh:q0h m hp h):Gets Tryz.prog q85 [Sl.v hp] m (vi (q0t h)):=by
 apply qgg
 have hl:=hh.len
 refine forI (n:=h.length) (hl ▸ hh.lim) (fun k m'=>Ext m m'/\∀ c ∈ h.take k,c.count ≠ 0) ⟨Ext.refl _,by simp⟩ ?_
 rintro k m1 I μ hk ⟨hx,hn⟩ next
 refine ⟨fun h1=>?_,fun h1=>?_⟩
 ·simp only [decide_eq_true_eq] at h1
  obtain ⟨c,hc⟩:=q00 (l:=h) (k:=k) (by omega)
  obtain ⟨f,hf,g0,_⟩:=(q0h.ext hx hh).at' hc
  refine ⟨by omega,by omega,c.count,by simpa using g0,fun h2=>⟨?_,hx⟩,fun h2=>next (by omega) _ ⟨hx,q0f hc hn (by simpa using h2)⟩⟩
  rw [qjs h k c hn hc (by simpa using h2)]
 ·simp only [decide_eq_false_iff_not] at h1
  refine ⟨?_,hx⟩
  have:=qet h k hk hn
  have:=q6s h
  have e:(hp.len:Int)=(q0t h:Int):=by omega
  rw [e]
def upd (ro:Nat->Nat) (b k:Nat):Nat->Nat:=fun c=>if c=b then k else ro c
theorem q21 (ro:Nat->Nat) (b k:Nat):upd ro b k b=k:=if_pos rfl
theorem q1y {ro:Nat->Nat} {b k c:Nat} (h:c ≠ b):upd ro b k c=ro c:=if_neg h
theorem Chg.upd {p:Nat->Prop} {ro:Nat->Nat} {m m':Mem} (hx:Ext m m') (hn:∀ b,m.size<=b->ro b=0) {b:Nat} (hb:m.size<=b) (hb':b < m'.size) (k:Nat):Chg p ro m (upd ro b k) m' :=
 ⟨hx.size,fun c hc=>q1y (by omega),fun c hc=>by rw [q1y (by omega)]; exact hn c (Nat.le_trans hx.size hc),fun c hc _=>hx.same c hc⟩
theorem qqt {N:Nat} {ro:Nat->Nat} {m:Mem} {hp:Sl} {h:List Cell} (hh:q0u N ro m hp h) (hn:∀ b,m.size<=b->ro b=0) {a:Nat} (ha:a<=h.length) (t:Int) {fs:Sl} {l:List Int} (hf:q03 m fs l) (hsm:h.length<=2000000000) (hl:l.length<=1000000000) (hN:N<=m.size) :
  q08 Tryz.prog qd7 [Sl.v hp,vi a,vi t,Sl.v fs] m fun v m'=>∃ ro' hp',v=Sl.v hp'/\q0u N ro' m' hp' (place h a ⟨1,t,l⟩)/\HC ro m ro' m':=by
 apply qnb
 simp -zeta only [q0a,q09,rI,rS,rB,cI,cB,cS,dI,dB,dS,gk,rg]
 refine (q2a hf hl).then hl fun s m1 o1 i1 h1=>⟨s,rfl,?_⟩
 intro m2 m3
 have h13:Ext m1 m3:=((Ext.refl m1).pushed _).scells (Nat.le_refl _) _ _
 have s3:m3.size=m1.size+1:=by simp [m3,m2,q02]
 have hx3:=h1.trans h13
 clear_value m3
 have c3:HC ro m ro m3:=Chg.ofExt _ hx3 hn
 have hn3:=c3.new
 have hh3:q0u N ro m3 hp h:=hh.chg (Chg.ofExt (fun _=>False) hx3 hn) id id
 have hlen:=hh.len
 have i3:=i1.ext h13
 have hs0:l ≠ []->ro s.blk=0:=fun hne=>by
  rcases o1.blk with e | e
  ·subst e; have:=i1.len; simp at this; exact absurd (List.length_eq_zero_iff.1 this.symm) hne
  ·exact hn _ e
 have hbx:ro m1.size=0:=hn _ h1.size
 refine ⟨fun e=>?_,fun e=>?_⟩
 ·simp at e
  intro m4
  have h34:Ext m3 m4:=(Ext.refl m3).pushed _
  have hrow:rowIs m4 m3.size 0 [.i 1,.i t,.s s]:=(Blk.push m3 _ _).row
  have c4:HC ro m ro m4:=c3.trans (Chg.ofExt _ h34 hn3)
  have s4:m4.size=m3.size+1:=by simp [m4]
  clear_value m4
  refine q0u.push (hh3.chg (Chg.ofExt (fun _=>False) h34 hn3) id id) c4.new (x:=.mk m3.size 0 1 1) rfl hrow (i3.ext h34) (FOk.of hh (fun h0=>(hx3.trans h34).same _ (hh.blk h0).2) (fun _=>o1.ext (h13.trans h34)) hs0 hN) hsm fun ro' r m5 q1 q2=>⟨fun b hb=>?_,ro',r,rfl,?_,c4.trans (q2.mono fun k hk=>Or.inl hk)⟩
  ·simp at hb; subst hb
   exact q2.keep _ (by omega) (by rw [hbx]; decide)
  ·rw [place,if_pos (by omega)]; exact q1
 ·simp at e
  have ha':a < h.length:=by omega
  have e1:Int.toNat (a:Int)=a:=by omega
  rw [e1]
  refine ⟨by omega,by omega,hh3.wr (o:=0) ha' (by decide),?_⟩
  intro m5
  obtain ⟨q1,q2⟩:=hh3.setCell hn3 ha' 1 t i3 (FOk.of hh (fun h0=>hx3.same _ (hh.blk h0).2) (fun _=>o1.ext h13) hs0 hN)
  refine ⟨fun b hb=>?_,ro,hp,rfl,?_,c3.trans (q2.mono fun k hk=>Or.inl hk)⟩
  ·simp at hb; subst hb
   exact q2.keep _ (by omega) (by rw [hbx]; decide)
  ·rw [place,if_neg (by omega)]; exact q1
theorem qo5 {h:List Cell} {n:Nat} {c:Cell} (hc:h[n]?=some c) (h0:c.count ≠ 0):trimN h (n+1)=n+1:=by
 simp only [trimN,hc]; rw [if_neg h0]
theorem qr6 {h:List Cell} {n:Nat} {c:Cell} (hc:h[n]?=some c) (h0:c.count=0):trimN h (n+1)=trimN h n:=by
 simp only [trimN,hc]; rw [if_pos h0]
theorem qcz {m:Mem} {hp:Sl} {h:List Cell} (hh:q0h m hp h):q08 Tryz.prog q7p [Sl.v hp] m fun v m'=>v=Sl.v (hp.cut 0 (trimN h h.length) 3)/\Ext m m':=by
 apply qow
 have hl:=hh.len
 have hcap:=hh.cap
 have hlim:=hh.lim
 refine ⟨fun i m'=>Ext m m'/\∃ n:Nat,i=n/\n<=h.length/\trimN h n=trimN h h.length,fun i _=>i.toNat,⟨Ext.refl _,h.length,by omega,Nat.le_refl _,rfl⟩,?_⟩
 rintro i m1 ⟨hx,n,rfl,hn,ht⟩
 have fin:trimN h n=n->Value.slice=Value.slice->(0:Int)<=(0:Int)/\(0:Int)<=(n:Int)/\(n:Int)<=(hp.cap:Int)/\(Sl.v (Sl.cut hp (Int.toNat (0:Int)) (Int.toNat (n:Int)) 3)=Sl.v (hp.cut 0 (trimN h h.length) 3)/\Ext m m1):=fun e _=>by
  refine ⟨by omega,by omega,by omega,?_,hx⟩
  rw [← ht,e]; rfl
 refine ⟨fun h1=>?_,fun h1=>?_⟩
 ·simp only [gt_iff_lt,decide_eq_true_eq] at h1
  obtain ⟨k,rfl⟩:∃ k,n=k+1:=⟨n - 1,by omega⟩
  have e1:w64 (((k+1:Nat):Int) - 1)=(k:Int):=by rw [q07 (by omega) (by omega)]; omega
  rw [e1]
  obtain ⟨c,hc⟩:=q00 (l:=h) (k:=k) (by omega)
  obtain ⟨f,hf,g0,_⟩:=(q0h.ext hx hh).at' hc
  refine ⟨by omega,by omega,c.count,by simpa using g0,fun h2=>⟨⟨hx,k,rfl,by omega,?_⟩,by show (k:Int).toNat < ((k+1:Nat):Int).toNat; omega⟩,fun h2=>?_⟩
  ·rw [← ht,qr6 hc (by simpa using h2)]
  ·exact fin (qo5 hc (by simpa using h2)) rfl
 ·simp only [gt_iff_lt,decide_eq_false_iff_not] at h1
  have:n=0:=by omega
  subst this
  exact fin rfl rfl
theorem Arr.pop {ro:Nat->Nat} {m:Mem} {k:Nat} {s:Sl} {l:List Int} {w:Int} (h:Arr ro m ty_int 1 k s ((l ++ [w]).map Ce.i)):s.len=l.length+1/\gcell m s.blk (s.off+l.length*1)=some (vi w)/\Arr ro m ty_int 1 k (s.cut 0 l.length 1) (l.map Ce.i):=by
 have hl:s.len=l.length+1:=by have:=h.len; simp at this; omega
 refine ⟨hl,?_,?_⟩
 ·have:=h.row l.length (.i w) (by simp)
  rw [Nat.mul_one]; exact this
 ·have:=h.cut (n:=l.length) (by omega)
  rw [Nat.mul_one,List.map_append,List.take_append_of_le_length (by simp),List.take_of_length_le (by simp)] at this
  exact this
theorem HInv.dropOne {h:List Cell} {w:Int} {r:List Int} {e:Nat->Int} (hi:HInv h (fun b=>e b+occ (w :: r) b)) (h0:∀ b,0<=e b) (hl:live h w) (h1:(q01 h w).count=1):HInv (h.set (ix w) free) (fun b=>e b+occ ((q01 h w).fields.reverse ++ r) b):=by
 obtain ⟨hc,hp⟩:=q0i hl
 refine HInv.gone hi hc h1 ?_ (by decide) (by decide) rfl (by simp [free]) (by simp [free]) (fun _=>rfl) fun b=>?_
 ·simp only [q2s hl.1,if_pos]; have:=h0 (ix w); have:=occ_nn r (ix w); omega
 ·simp only [q2s hl.1,q4d,qek]; omega
theorem HInv.dropMore {h:List Cell} {w:Int} {r:List Int} {e:Nat->Int} (hi:HInv h (fun b=>e b+occ (w :: r) b)) (h0:∀ b,0<=e b) (hl:live h w) (h1:(q01 h w).count ≠ 1):HInv (less h w) (fun b=>e b+occ r b):=by
 obtain ⟨hc,hp⟩:=q0i hl
 have hm:=(hi.cell _ (q05 hc)).hi
 refine HInv.recount hi hc hp (by omega) (by omega) (fun b=>?_) ?_
 ·simp only [q2s hl.1]; split <;> omega
 ·have:=h0 (ix w); have:=occ_nn r (ix w); omega
theorem HInv.dropInt {h:List Cell} {w:Int} {r:List Int} {e:Nat->Int} (hi:HInv h (fun b=>e b+occ (w :: r) b)) (hw:w < 1000):HInv h (fun b=>e b+occ r b) :=
 hi.congr fun b=>by simp only [occ]; rw [if_neg (by omega)]; omega
theorem HInv.dropLive {h:List Cell} {w:Int} {r:List Int} {e:Nat->Int} (hi:HInv h (fun b=>e b+occ (w :: r) b)) (h0:∀ b,0<=e b) (hw:1000<=w):live h w :=
 ⟨hw,hi.lv _ (by simp only [q2s hw,if_pos]; have:=h0 (ix w); have:=occ_nn r (ix w); omega)⟩
def fsum:List Cell->Nat
 | []=>0
 | c :: h=>c.fields.length+fsum h
theorem qd9:∀ {h:List Cell} {a:Nat} {c:Cell} (c':Cell),h[a]?=some c->fsum (h.set a c')+c.fields.length=fsum h+c'.fields.length
 | [],a,c,c',h=>by simp at h
 | d :: h,0,c,c',hc=>by simp at hc; subst hc; simp only [List.set_cons_zero,fsum]; omega
 | d :: h,a+1,c,c',hc=>by
  have:=qd9 (h:=h) (a:=a) c' (by simpa using hc)
  simp only [List.set_cons_succ,fsum]; omega
theorem qpn:∀ {h:List Cell},(∀ c ∈ h,c.fields.length<=3)->fsum h<=3*h.length
 | [],_=>by simp [fsum]
 | c :: h,hc=>by
  have:=qpn (fun d hd=>hc d (List.mem_cons_of_mem _ hd))
  have:=hc c List.mem_cons_self
  simp only [fsum,List.length_cons]; omega
theorem ql3 {N:Nat} {ro:Nat->Nat} {m:Mem} {hp:Sl} {h:List Cell} (hh:q0u N ro m hp h) (hn:∀ b,m.size<=b->ro b=0) {ws:Sl} {w:Int} (hw:q03 m ws [w]) {e:Nat->Int} (hI:HInv h (fun b=>e b+occ [w] b)) (he:∀ b,0<=e b) (hsm:h.length<=2000000000) :
  q08 Tryz.prog q8l [Sl.v hp,Sl.v ws] m fun v m'=>∃ ro' hp',v=Sl.v hp'/\q0u N ro' m' hp' (trim (dropS h [w]))/\HC ro m ro' m':=by
 apply qgy
 refine (q2a hw (by simp)).then (by simp) fun s0 m1 o1 i1 h1=>⟨s0,rfl,?_⟩
 have hs0:s0 ≠ .nil:=fun e=>by subst e; have:=i1.len; simp at this
 have hb0:m.size<=s0.blk/\s0.blk < m1.size:=by
  rcases o1.blk with e | e
  ·exact absurd e hs0
  ·rcases o1.lt with e2 | e2
   ·exact absurd e2 hs0
   ·exact ⟨e,e2⟩
 have c1:HC ro m (upd ro s0.blk 6) m1:=Chg.upd h1 hn hb0.1 hb0.2 6
 have a1:Arr (upd ro s0.blk 6) m1 ty_int 1 6 s0 ([w].map Ce.i):=Arr.ofOwn o1 fun _=>q21 _ _ _
 have hh1:q0u N (upd ro s0.blk 6) m1 hp h:=hh.chg (Chg.upd (p:=fun _=>False) h1 hn hb0.1 hb0.2 6) id id
 have hfs:=qpn fun c hc=>(hI.cell c hc).fl
 have hlen:=hh.len
 refine whileG1 (γ:=List Cell × List Int) (fun g todo m'=>∃ ro',q0u N ro' m' hp g.1/\Arr ro' m' ty_int 1 6 todo (g.2.reverse.map Ce.i)/\HC ro m ro' m'/\HInv g.1 (fun b=>e b+occ g.2 b)/\dropS g.1 g.2=dropS h [w]/\g.1.length=h.length/\g.2.length+fsum g.1<=1+fsum h) (fun g=>bulk g.1+g.2.length) (h,[w])
  ⟨_,hh1,a1,c1,hI,rfl,rfl,by simp⟩ ?_
 rintro ⟨hc,st⟩ todo m2 I μ ⟨ro2,hh2,a2,c2,hI2,hd2,hl2,hf2⟩ next
 simp only [] at hh2 a2 hI2 hd2 hl2 hf2
 have htl:todo.len=st.length:=by have:=a2.len; simp at this; omega
 refine ⟨fun h3=>?_,fun h3=>?_⟩
 ·simp only [gt_iff_lt,decide_eq_true_eq] at h3
  cases st with
  | nil=>simp at htl; omega
  | cons x r =>
   simp only [List.reverse_cons] at a2
   obtain ⟨p1,p2,p3⟩:=a2.pop
   simp only [List.length_cons,List.length_reverse] at htl p1 p2 p3 hf2
   have e1:w64 ((todo.len:Int) - 1)=(r.length:Int):=by rw [q07 (by omega) (by omega)]; omega
   have hcap:=a2.le
   rw [e1]
   have e2:Int.toNat (0:Int)=0:=rfl
   have e3:Int.toNat (r.length:Int)=r.length:=by omega
   rw [e2,e3]
   refine ⟨by omega,by omega,x,p2,by omega,by omega,by omega,(q1b _ _).then fun b m3 hb h4=>⟨b,rfl,fun hbt=>?_,fun hbf=>?_⟩⟩
   ·have hx:=hb.1 hbt
    have hlv:=hI2.dropLive he hx
    obtain ⟨hcc,hpos⟩:=q0i hlv
    have hlt:=q04 hcc
    have hix:ix x=(x - 1000).toNat:=rfl
    have hmx:=(hI2.cell _ (q05 hcc)).hi
    have e4:w64 (x - 1000)=x - 1000:=q07 (by omega) (by omega)
    rw [e4,← hix]
    have hc3:HC ro2 m2 ro2 m3:=Chg.ofExt _ h4 c2.new
    have hh3:q0u N ro2 m3 hp hc:=hh2.chg (Chg.ofExt (fun _=>False) h4 c2.new) id id
    have a3:=p3.chg (Chg.ofExt (fun _=>False) h4 c2.new) id
    obtain ⟨f0,g0,_,_,_,_⟩:=hh3.get hcc
    refine ⟨by omega,by omega,_,g0,by omega,by omega,hh3.wr (o:=0) hlt (by decide),?_⟩
    have e5:w64 ((q01 hc x).count - 1)=(q01 hc x).count - 1:=q07 (by omega) (by omega)
    rw [e5]
    intro m4
    obtain ⟨hh4,c4⟩:=hh3.setCount hc3.new hcc ((q01 hc x).count - 1)
    have a4:=a3.chg c4 (by decide)
    have c24:HC ro m ro2 m4:=(c2.trans hc3).trans (c4.mono fun k hk=>Or.inl hk)
    have hbk:=q3w (c':=free) hcc
    simp only [if_pos hpos,free] at hbk
    simp at hbk
    have hset:(hc.set (ix x) { q01 hc x with count:=(q01 hc x).count - 1 })[ix x]?=some { q01 hc x with count:=(q01 hc x).count - 1 }:=q1d hcc
    obtain ⟨f1,k0,_,k2,kf,kr⟩:=hh4.get hset
    refine ⟨by omega,by omega,_,k0,fun h5=>?_,fun h5=>?_⟩
    ·simp only [beq_iff_eq] at h5
     have hone:(q01 hc x).count=1:=by omega
     have hfl:=(hI2.cell _ (q05 hcc)).fl
     have hfll:=kf.len
     simp only [] at hfll kf kr
     have hfs2:=qd9 free hcc
     simp only [free,List.length_nil] at hfs2
     refine ⟨by omega,by omega,f1,k2,Arr.append (zs:=[.i 0]) (new:=(q01 hc x).fields.map Ce.i) a4 c24.new (by simp [hfll]) kf.rows ?_ fun ro5 q m5 q1 q2=>?_⟩
     ·have:(todo.cut 0 r.length 1).len=r.length:=by have:=a4.len; simp at this; omega
      rw [this,hfll]; omega
     have hh5:=hh4.chg q2 (by decide) (by decide)
     have c25:HC ro m ro5 m5:=c24.trans (q2.mono fun k hk=>Or.inr (Or.inr hk))
     intro m6
     have h56:Ext m5 m6:=(Ext.refl m5).pushed _
     have hh6:=hh5.chg (Chg.ofExt (fun _=>False) h56 c25.new) id id
     have a6:=q1.chg (Chg.ofExt (fun _=>False) h56 c25.new) id
     have c26:HC ro m ro5 m6:=c25.trans (Chg.ofExt _ h56 c25.new)
     clear_value m6
     have hlt6:ix x < (hc.set (ix x) { q01 hc x with count:=(q01 hc x).count - 1 }).length:=by simpa using hlt
     refine ⟨by omega,by omega,hh6.wr (o:=0) hlt6 (by decide),?_⟩
     intro m7
     obtain ⟨hh7,c7⟩:=hh6.setCell c26.new hlt6 0 0 (f:=.mk m5.size 0 0 0) (l:=[]) ⟨rfl,by simp,by simp,by simp⟩ (fun hne=>absurd rfl hne)
     rw [List.set_set] at hh7
     refine next (hc.set (ix x) free,(q01 hc x).fields.reverse ++ r) _ _ ⟨ro5,hh7,?_,c26.trans (c7.mono fun k hk=>Or.inl hk),hI2.dropOne he hlv hone,?_,by simpa using hl2,?_⟩ ?_
     ·have:=a6.chg c7 (by decide)
      simpa using this
     ·rw [← qbe hlv hone]; exact hd2
     ·simp only [List.length_append,List.length_reverse]
      have e6:fsum (hc.set (ix x) free)+(q01 hc x).fields.length=fsum hc:=by simpa [free] using hfs2
      omega
     ·simp only [List.length_append,List.length_reverse,List.length_cons]
      have e6:bulk (hc.set (ix x) free)+((q01 hc x).count.toNat+(q01 hc x).fields.length)=bulk hc:=by simpa [free] using hbk
      omega
    ·simp only [beq_eq_false_iff_ne] at h5
     have hne:(q01 hc x).count ≠ 1:=by omega
     have hbk2:=q3w (c':={ q01 hc x with count:=(q01 hc x).count - 1 }) hcc
     simp only [if_pos hpos] at hbk2
     rw [if_pos (by omega)] at hbk2
     have hfs2:=qd9 { q01 hc x with count:=(q01 hc x).count - 1 } hcc
     refine next (less hc x,r) _ _ ⟨ro2,hh4,a4,c24,hI2.dropMore he hlv hne,?_,by simpa [less] using hl2,?_⟩ ?_
     ·rw [← q9a hlv hne]; exact hd2
     ·simp only [less]; simp only [] at hfs2; omega
     ·simp only [less,List.length_cons]; omega
   ·have hx:=fb hb hbf
    have hc3:HC ro2 m2 ro2 m3:=Chg.ofExt _ h4 c2.new
    refine next (hc,r) _ _ ⟨ro2,hh2.chg (Chg.ofExt (fun _=>False) h4 c2.new) id id,p3.chg (Chg.ofExt (fun _=>False) h4 c2.new) id,c2.trans hc3,hI2.dropInt (by omega),?_,hl2,by simp only []; omega⟩ (by simp)
    rw [← q9p (w:=x) (fun hl=>hx hl.1)]; exact hd2
 ·simp only [gt_iff_lt,decide_eq_false_iff_not] at h3
  have hst:st=[]:=List.length_eq_zero_iff.1 (by omega)
  subst hst
  rw [qbg] at hd2
  subst hd2
  refine (qcz (hh2.cells (by omega))).mono ?_
  rintro _ m3 ⟨rfl,h4⟩
  refine ⟨_,rfl,ro2,_,rfl,?_,c2.trans (Chg.ofExt _ h4 c2.new)⟩
  exact (hh2.chg (Chg.ofExt (fun _=>False) h4 c2.new) id id).cut (q8i _ _)
end
end Go.Proofs.YtpggcodlaajceaaGreat
