/- Part of a proof, joined by a program: Vb4 Vb5 Vb6 La9 La5 La6 Lb1 Lb2 Op1 Op2 Op3. -/
import Derived.Carry
import Derived.ChangeSame
import Derived.Deep.Slices
import Derived.OpenShut
import Derived.RowKit
import Derived.Test.YtpggcodlaajceaaGreatU01
import Derived.Test.YtpggcodlaajceaaGreatU06
import Derived.Test.YtpggcodlaajceaaGreatU11
import Derived.Test.YtpggcodlaajceaaGreatU12
import Derived.Test.YtpggcodlaajceaaGreatU13
set_option linter.unusedVariables false
set_option linter.unusedSimpArgs false
namespace Go.Proofs.YtpggcodlaajceaaGreat
open Go.Vc
section
abbrev z7:List Ce:=[.i 0,.i 0,.i 0,.i 0,.s .nil,.s .nil,.s .nil]
structure Stg (m0:Mem) (ro:Nat->Nat) (m m2:Mem) (s:St) (ro':Nat->Nat) (M:Mem) (q r:Option Sl) (ob:Option Nat):Prop where
 chg:Ch2 ro m ro' M
 ext:Ext m2 M
 no3:r=none->∀ b,ro' b ≠ 3
 box:∀ b,m.size<=b->b < m2.size->ro' b=8
 out:∀ x,q=some x->Arr ro' M ty_int 1 2 x (s.out.map Ce.i)
 heap:∀ x,r=some x->q0u m0.size ro' M x s.heap
 ob:∀ x,ob=some x->m2.size<=x/\ro' x=8/\Blk M x q1s z7
section
variable {m0:Mem} {ro:Nat->Nat} {m m2:Mem} {s:St} {ro':Nat->Nat} {M:Mem} {q r:Option Sl} {ob:Option Nat}
theorem Stg.more (h:Stg m0 ro m m2 s ro' M q r ob) {ro2:Nat->Nat} {M2:Mem} (hc:Chg (fun k=>k=3) ro' M ro2 M2) (hx:Ext M M2) (hlt:∀ b,m.size<=b->b < m2.size->ro2 b=8) {q2 r2:Option Sl} {ob2:Option Nat} (h3:r=none \/ Chg (fun _=>False) ro' M ro2 M2) (hle:r2=none->∀ b,ro2 b ≠ 3)
  (h1:∀ x,q2=some x->q=some x \/ Arr ro2 M2 ty_int 1 2 x (s.out.map Ce.i)) (h2:∀ x,r2=some x->r=some x \/ q0u m0.size ro2 M2 x s.heap) (h4:∀ x,ob2=some x->ob=some x \/ (m2.size<=x/\ro2 x=8/\Blk M2 x q1s z7)):Stg m0 ro m m2 s ro2 M2 q2 r2 ob2 :=
 ⟨h.chg.trans (hc.mono fun k hk=>by omega),h.ext.trans hx,hle,hlt,fun x e=>(h1 x e).elim (fun e2=>(h.out x e2).chg hc (by decide)) id,
  fun x e=>(h2 x e).elim (fun e2=>h3.elim (fun e3=>by rw [e3] at e2; cases e2) fun c=>(h.heap x e2).chg c id id) id,
  fun x e=>(h4 x e).elim (fun e2=>by
   obtain ⟨a,b,c⟩:=h.ob x e2
   exact ⟨a,by rw [hc.role _ c.lt]; exact b,c.ext hx⟩) id⟩
theorem Stg.keep8 (h:Stg m0 ro m m2 s ro' M q r ob) {p:Nat->Prop} {ro2:Nat->Nat} {M2:Mem} (hc:Chg p ro' M ro2 M2):∀ b,m.size<=b->b < m2.size->ro2 b=8:=fun b h1 h2=>by rw [hc.role b (h.ext.lt h2)]; exact h.box b h1 h2
theorem Stg.c (h:Stg m0 ro m m2 s ro' M none r ob) {M2:Mem} {x:Sl} (oq:Own M M2 ty_int 1 x (s.out.map Ce.i)) (hx:Ext M M2):∃ ro2,Stg m0 ro m m2 s ro2 M2 (some x) r ob:=by
 obtain ⟨ro2,C,A,le⟩:=Own.roled oq hx h.chg.new 2
 exact ⟨ro2,h.more (C.mono fun _=>False.elim) hx (h.keep8 C) (Or.inr C) (fun e b=>by have:=le b; have:=h.no3 e b; omega) (fun y e=>Or.inr (by simp at e; subst e; exact A)) (fun y e=>Or.inl e) fun y e=>Or.inl e⟩
theorem Stg.a (h:Stg m0 ro m m2 s ro' M q r ob) {M2:Mem} (hx:Ext M M2):Stg m0 ro m m2 s ro' M2 q r ob :=
 have C:Chg (fun _=>False) ro' M ro' M2:=Chg.ofExt _ hx h.chg.new
 h.more (C.mono fun _=>False.elim) hx (h.keep8 C) (Or.inr C) h.no3 (fun y e=>Or.inl e) (fun y e=>Or.inl e) fun y e=>Or.inl e
theorem Stg.b (h:Stg m0 ro m m2 s ro' M q r none) {M2:Mem} (e:M2=M.push (.cells (vals z7) q1s)):∃ ro2,Stg m0 ro m m2 s ro2 M2 q r (some M.size):=by
 have hx:Ext M M2:=by rw [e]; exact Ext.push _ _
 have C:Chg (fun _=>False) ro' M (upd ro' M.size 8) M2:=Chg.upd hx h.chg.new (Nat.le_refl _) (by rw [e]; simp) 8
 refine ⟨_,h.more (C.mono fun _=>False.elim) hx (h.keep8 C) (Or.inr C) (fun e3 b=>?_) (fun y e=>Or.inl e) (fun y e=>Or.inl e) fun y e2=>Or.inr ?_⟩
 ·by_cases hb:b=M.size
  ·rw [hb,q21]; decide
  ·rw [q1y hb]; exact h.no3 e3 b
 ·simp at e2; subst e2
  exact ⟨h.ext.size,q21 _ _ _,by rw [e]; exact Blk.push _ _ _⟩
end
set_option maxHeartbeats 2000000 in
theorem qc9 {m0:Mem} {ro:Nat->Nat} {m:Mem} {out hp fr:Sl} {s:St} (B:Bs m0 ro m) (hro:∀ b,ro b<=1) (hs:StR m out hp fr s) (hsm:SmallS s):q08 Tryz.prog q5n [stV s out hp fr] m (SNewR m0 ro m s):=by
 apply qgu
 simp -zeta only [q0a,q09,rI,rS,rB,cI,cB,cS,dI,dB,dS,gk,rg]
 intro m1 m2
 have s1:m1.size=m.size+1:=by simp [m1]
 have s2:m2.size=m.size+2:=by simp [m2,s1]
 have x2:Ext m m2:=((Ext.refl m).pushed _).pushed _
 obtain ⟨ro2,hro2⟩:∃ ro2,ro2=upd (upd ro m.size 8) m1.size 8:=⟨_,rfl⟩
 have C2:Chg (fun _=>False) ro m ro2 m2:=by
  rw [hro2]
  exact (Chg.upd (m':=m1) (k:=8) ((Ext.refl m).pushed _) B.new (Nat.le_refl _) (by omega)).trans (Chg.upd (m':=m2) (k:=8) ((Ext.refl m1).pushed _) (fun b hb=>by rw [q1y (by omega)]; exact B.new b (by omega)) (Nat.le_refl _) (by omega))
 have r0:ro2 m.size=8/\ro2 m1.size=8:=by rw [hro2]; exact ⟨by rw [q1y (by omega),q21],q21 _ _ _⟩
 have hS:Stg m0 ro m m2 s ro2 m2 none none none:=by
  refine ⟨C2.mono fun _=>False.elim,Ext.refl _,fun _ b=>?_,fun b h1 h2=>?_,by simp,by simp,by simp⟩
  ·rw [hro2]; unfold upd
   split
   ·decide
   ·split
    ·decide
    ·have:=hro b; omega
  ·rcases Nat.lt_or_ge b m1.size with h | h
   ·have:b=m.size:=by omega
    subst this; exact r0.1
   ·have:b=m1.size:=by omega
    subst this; exact r0.2
 clear_value m2
 clear hro2
 have hN:=B.base.size
 have hml:=hsm.out
 have hll:=hsm.heap
 have hdl:=hsm.depth
 have cC:∀ {ro':Nat->Nat} {M:Mem} {r:Option Sl} {ob:Option Nat} {K:Value->Mem->Prop},Stg m0 ro m m2 s ro' M none r ob->(∀ x M' ro'',Stg m0 ro m m2 s ro'' M' (some x) r ob->Ext M M'->M.size<=M'.size->K (Sl.v x) M')->q08 Tryz.prog q15 [Sl.v out] M K:=fun h hK =>
  (q2a (hs.out.ext (x2.trans h.ext)) (by omega)).mono fun _ M' ⟨x,e,o,hx⟩=>by
   obtain ⟨ro'',h'⟩:=h.c o hx
   rw [e]; exact hK x M' ro'' h' hx hx.size
 have cH:∀ {ro':Nat->Nat} {M:Mem} {q:Option Sl} {ob:Option Nat} {K:Value->Mem->Prop},Stg m0 ro m m2 s ro' M q none ob->(∀ x M' ro'',Stg m0 ro m m2 s ro'' M' q (some x) ob->Ext M M'->M.size<=M'.size->K (Sl.v x) M')->q08 Tryz.prog q1f [Sl.v hp] M K:=fun {ro' M q ob K} h hK =>
  (qmn (N:=m0.size) h.chg.new (fun b _=>h.no3 rfl b) (hs.ext (x2.trans h.ext)).heap (by have:=h.ext.size; omega) hsm.fl (by omega)).mono fun _ M' ⟨ro'',x,e,H,C,hx⟩=>by
   rw [e]
   exact hK x M' ro'' (h.more C hx (h.keep8 C) (Or.inl rfl) (fun e=>by cases e) (fun y e=>Or.inl e) (fun y e=>Or.inr (by simp at e; subst e; exact H)) fun y e=>Or.inl e) hx hx.size
 have kp:∀ {M M':Mem},Ext M M'->m2.size<=M.size->∀ i,gcell M' m.size i=gcell M m.size i:=fun hx hlt i=>q16 (hx.same _ (by omega)) i
 -- K: the state as it is read,in its box
 refine ⟨fun o M=>o.2=0/\∃ ro' q r fb,Cpy m0 ro m ro' M q r s/\m2.size<=o.1/\m2.size<=M.size/\ro' o.1=8/\ro' m.size=8/\ro' m1.size=8/\Blk M o.1 q1s [.i s.status,.i s.value,.i s.calls,.i s.most,.s q,.s r,.s (.mk fb 0 0 0)],?_,?_⟩
 ·have fin:∀ {ro':Nat->Nat} {M:Mem} {q r:Sl} {ob fb:Nat},Stg m0 ro m m2 s ro' M (some q) (some r) (some ob)->(fun (o:Nat × Nat) M=>o.2=0/\∃ ro' q r fb,Cpy m0 ro m ro' M q r s/\m2.size<=o.1/\m2.size<=M.size/\ro' o.1=8/\ro' m.size=8/\ro' m1.size=8/\Blk M o.1 q1s [.i s.status,.i s.value,.i s.calls,.i s.most,.s q,.s r,.s (.mk fb 0 0 0)]) (ob,0) (scells M ob 0 [.i s.status,.i s.value,.i s.calls,.i s.most,.s q,.s r,.s (.mk fb 0 0 0)]):=fun {ro' M q r ob fb} h=>by
   obtain ⟨a,b,c⟩:=h.ob ob rfl
   have C:Chg (fun k=>k=8) ro' M ro' (scells M ob 0 [.i s.status,.i s.value,.i s.calls,.i s.most,.s q,.s r,.s (.mk fb 0 0 0)]):=Chg.scells h.chg.new b _ _
   exact ⟨rfl,ro',q,r,fb,(⟨h.chg,h.out q rfl,h.heap r rfl⟩:Cpy m0 ro m ro' M q r s).step C fun k hk=>by omega,a,by rw [q02]; exact h.ext.size,b,h.box _ (by omega) (by omega),h.box _ (by omega) (by omega),Blk.scells (m:=M) (o:=0) c⟩
  have hz:m2.size<=m2.size:=Nat.le_refl _
  repeat' first
   | exact fin hS
   | (refine cC hS ?_; intro x M' ro'' hS hX hZ; have hW:=hz; have hz:=Nat.le_trans hz hZ)
   | (refine cH hS ?_; intro x M' ro'' hS hX hZ; have hW:=hz; have hz:=Nat.le_trans hz hZ)
   | (intro mm; have hX:Ext _ mm:=(Ext.refl _).pushed _; have hQ:Array.size mm=_+1:=Array.size_push _; have hW:=hz; have hz:=Nat.le_trans hz hX.size; first | (obtain ⟨ro'',hS⟩:=hS.b (M2:=mm) rfl; clear_value mm) | (have hS:=hS.a hX; clear_value mm))
   | (refine And.intro (kp hX hW _) ?_)
   | (refine And.intro (Ext.sam hX fun b hb=>by simp at hb; omega) ?_)
   | (refine ⟨_,rfl,?_⟩)
   | (refine And.intro ?_ ?_)
 ·rintro ⟨ob,oo⟩ m3 ⟨rfl,ro3,q,r,fb,K3,hob,z3,r3,r3m,r3n,kb3⟩
  simp only [] at hob r3 kb3
  have ex9:∀ {ro':Nat->Nat} {M:Mem},Ch2 ro m ro' M->Ext m M:=fun c=>(c.none fun b _=>hro b).toExt
  have hfl:=hs.frames.len
  simp -zeta only [Nat.zero_add]
  refine forI (n:=s.frames.length) (by omega) (fun k M=>∃ ro' fc,Cpy m0 ro m ro' M q r s/\FrmL ro' M fc (s.frames.take k)/\m2.size<=M.size/\ro' ob=8/\ro' m.size=8/\ro' m1.size=8/\Blk M ob q1s [.i s.status,.i s.value,.i s.calls,.i s.most,.s q,.s r,.s fc])
   ⟨ro3,_,K3,⟨[],⟨by simp,by simp,Or.inl rfl⟩,by simp,by simp,by simp⟩,z3,r3,r3m,r3n,kb3⟩ ?_
  rintro k m9 I μ hk ⟨ro9,fc,K9,F9,z9,r9,r9m,r9n,kb9⟩ next
  have en:Int.toNat (k:Int)=k:=by omega
  rw [en]
  have X9:=ex9 K9.chg
  have lob:=kb9.lt
  refine ⟨fun h1=>?_,fun h1=>?_⟩
  ·simp only [decide_eq_true_eq] at h1
   have hkl:k < s.frames.length:=by omega
   obtain ⟨f,hf⟩:=q00 hkl
   have hfb:=hsm.frames f (q05 hf)
   obtain ⟨ra,oa,ha,ir,io,ih,g0,g1,g2,g3,g4,g5⟩:=hs.frames.at' hf
   refine ⟨by omega,by omega,_,X9.gcell g0,_,X9.gcell g1,_,X9.gcell g2,ra,X9.gcell g3,oa,X9.gcell g4,ha,X9.gcell g5,?_⟩
   intro m10 m11
   have x11:Ext m9 m11:=((Ext.refl m9).pushed _).scells (Nat.le_refl _) _ _
   have s11:m11.size=m9.size+1:=by simp [m11,m10,q02]
   clear_value m11
   have D11:Chg (fun _=>False) ro9 m9 (upd ro9 m9.size 8) m11:=Chg.upd x11 K9.chg.new (Nat.le_refl _) (by omega) 8
   have kk:∀ {M M':Mem} {b:Nat},Ext M M'->b < M.size->∀ i,gcell M' b i=gcell M b i:=fun hx hlt i=>q16 (hx.same _ hlt) i
   have bl:∀ {M:Mem},m11.size<=M.size->∀ b ∈ [m9.size,m1.size,m.size],b < M.size:=fun h b hb=>by simp at hb; omega
   refine ⟨fc,(kb9.ext x11).get 6,(q2a (ir.ext (X9.trans x11)) (by omega)).mono ?_⟩
   rintro _ m12 ⟨qr,rfl,o12,x12⟩
   obtain ⟨ro12,D12,A12,_⟩:=Own.roled o12 x12 D11.new (10+3*k)
   have z12:=x12.size
   refine ⟨x12.sam (bl (Nat.le_refl _)),qr,rfl,kk x12 (by omega) _,kk x12 (by omega) _,kk x12 (by omega) _,kk x12 (by omega) _,kk x12 (by omega) _,kk x12 (by omega) _,(q2a (io.ext (X9.trans (x11.trans x12))) (by omega)).mono ?_⟩
   rintro _ m13 ⟨qo,rfl,o13,x13⟩
   obtain ⟨ro13,D13,A13,_⟩:=Own.roled o13 x13 D12.new (11+3*k)
   have z13:=x13.size
   refine ⟨x13.sam (bl (by omega)),qo,rfl,kk x13 (by omega) _,kk x13 (by omega) _,kk x13 (by omega) _,kk x13 (by omega) _,kk x13 (by omega) _,(q2a (ih.ext (X9.trans (x11.trans (x12.trans x13)))) (by omega)).mono ?_⟩
   rintro _ m14 ⟨qh,rfl,o14,x14⟩
   obtain ⟨ro14,D14,A14,_⟩:=Own.roled o14 x14 D13.new (12+3*k)
   have z14:=x14.size
   refine ⟨x14.sam (bl (by omega)),qh,rfl,kk x14 (by omega) _,kk x14 (by omega) _,kk x14 (by omega) _,kk x14 (by omega) _,?_⟩
   intro m15
   have x15:Ext m14 m15:=(Ext.refl m14).pushed _
   have s15:m15.size=m14.size+1:=by simp [m15]
   have k15:Blk m15 m14.size q1l [.i f.proc,.i f.pc,.i f.dst,.s qr,.s qo,.s qh]:=Blk.push m14 _ _
   clear_value m15
   have D15:Chg (fun _=>False) ro14 m14 ro14 m15:=Chg.ofExt _ x15 D14.new
   have D9:Chg (fun _=>False) ro9 m9 ro14 m15:=(((D11.trans D12).trans D13).trans D14).trans D15
   have R14:ro14 m9.size=8/\ro14 m.size=8/\ro14 m1.size=8/\ro14 ob=8:=⟨by rw [D14.role _ (by omega),D13.role _ (by omega),D12.role _ (by omega)]; exact q21 _ _ _,by rw [D9.role _ (by omega)]; exact r9m,by rw [D9.role _ (by omega)]; exact r9n,by rw [D9.role _ (by omega)]; exact r9⟩
   have tk:(s.frames.take k).length=k:=by simp; omega
   refine ⟨kk x15 (by omega) _,FrmL.push (f:=f) (F9.chg D9 fun _ _=>id) D15.new (x:=.mk m14.size 0 1 1) rfl k15.row (by rw [tk]; exact (((A12.chg D13 id).chg D14 id).chg D15 id)) (by rw [tk]; exact (A13.chg D14 id).chg D15 id) (by rw [tk]; exact A14.chg D15 id) (by omega) fun ro16 fc' m16 F16 C16=>?_⟩
   have z16:=C16.size
   have R16:ro16 m9.size=8/\ro16 m.size=8/\ro16 m1.size=8/\ro16 ob=8:=⟨by rw [C16.role _ (by omega)]; exact R14.1,by rw [C16.role _ (by omega)]; exact R14.2.1,by rw [C16.role _ (by omega)]; exact R14.2.2.1,by rw [C16.role _ (by omega)]; exact R14.2.2.2⟩
   have kb16:Blk m16 ob q1s [.i s.status,.i s.value,.i s.calls,.i s.most,.s q,.s r,.s fc]:=(kb9.ext D9.toExt).congr (C16.keep _ (by omega) (by rw [R14.2.2.2]; decide))
   refine ⟨C16.samR fun b hb=>by simp at hb; rcases hb with e | e | e <;> rw [e] <;> refine ⟨by omega,?_⟩ <;> simp [R14.1,R14.2.1,R14.2.2.1],kb16.wrOk (by simp),?_⟩
   intro m17
   have C17:Chg (fun k=>k=8) ro16 m16 ro16 m17:=Chg.scells C16.new (show (fun k=>k=8) (ro16 ob) from R16.2.2.2) _ _
   have s17:m17.size=m16.size:=q02 _ _ _ _
   refine ⟨fun b hb=>q0n _ _ _ _ (by simp at hb; omega),next (by omega) _ ⟨ro16,fc',((K9.step D9 fun _=>False.elim).step C16 fun k hk=>by omega).step C17 fun k hk=>by omega,?_,by omega,R16.2.2.2,R16.2.1,R16.2.2.1,Blk.scells (m:=m16) (o:=6) (r:=[.s fc']) kb16⟩⟩
   rw [q06 hf]; exact F16.chg C17 fun k hk=>by omega
  ·simp only [decide_eq_false_iff_not] at h1
   rw [q0b (by omega)] at F9
   refine ⟨_,kb9.get 0,_,kb9.get 1,_,kb9.get 2,_,kb9.get 3,_,kb9.get 4,_,kb9.get 5,_,kb9.get 6,?_⟩
   intro m10
   have C10:Chg (fun k=>k=8) ro9 m9 ro9 m10:=Chg.scells K9.chg.new (show (fun k=>k=8) (ro9 m1.size) from r9n) _ _
   have K10:=K9.step C10 fun k hk=>by omega
   have D:=K10.chg.none fun b _=>hro b
   exact ⟨ro9,q,r,fc,rfl,⟨B.chg D,K10.out,K10.heap,F9.chg C10 fun k hk=>by omega⟩,D⟩
end
section
def zeroSt:St:=⟨0,0,0,0,[],[],[]⟩
structure Run where
 s:St
 ok:Bool
open Classical in
noncomputable def runOf (im:Image) (s:St) (many:Int):Run:=if StateOk im s/\0<=many/\many<=100000 then ⟨steps im many.toNat s,true⟩ else ⟨zeroSt,false⟩
theorem StateOk.small {im:Image} {s:St} (h:StateOk im s) {n:Nat} (hS:Sm n s) (hn:n<=900000000):SmallS s:=by
 refine ⟨by have:=hS.out; omega,fun c hc=>(h.heap.cell c hc).fl,by have:=hS.heap; omega,?_,fun f hf=>?_⟩
 ·have:=h.depth; have:=h.calls; have:=h.most; omega
 ·have hG:=h.frames f hf
  obtain ⟨pg,_,hge,hPg,_⟩:=hG.instr h.image
  have q1:=hG.lr
  have q2:=hG.lo
  have q3:=hG.lh
  rw [hge] at q1 q2 q3
  have:=hPg.regs
  omega
theorem FitS.sm {s:St} (h:FitS s) {n:Nat} (h1:s.heap.length<=n) (h2:s.out.length<=n):Sm n s:=⟨h1,h2,fun g hg w hw=>((h.frames g hg).1 w hw).2⟩
section
variable {m0:Mem} {ro:Nat->Nat} {m:Mem} {out hp fr:Sl} {s:St}
theorem SNew.read (h:SNew m0 ro m out hp fr s) (hs:SmallS s):StR m out hp fr s :=
 ⟨h.out.ints (by have:=hs.out; omega),h.heap.cells (by have:=hs.heap; omega),h.frames.read (by have:=hs.depth; omega) hs.frames⟩
theorem SNew.lay (h:SNew m0 ro m out hp fr s) {m2:Mem} (hx:Ext m m2) {mb e:Nat} {bx:List Ce} (hb:m.size<=mb) (kb:Blk m2 mb e bx):Lay m0 (upd ro mb 1) m2 mb e bx out hp fr s.out s.heap s.frames:=by
 have C:Chg (fun _=>False) ro m (upd ro mb 1) m2:=Chg.upd hx h.bs.new hb kb.lt 1
 have B:=h.bs.chg C
 exact ⟨B.base,B.base0,B.new,kb,q21 _ _ _,h.out.chg C id,h.heap.chg C id id,h.frames.chg C fun _ _=>id⟩
theorem SNew.nil {m0 m:Mem} (hx:Ext m0 m):SNew m0 (fun _=>0) m .nil .nil .nil zeroSt :=
 ⟨⟨hx,fun _ _=>rfl,fun _ _=>rfl⟩,⟨by simp [zeroSt],by simp,Or.inl rfl⟩,⟨[],⟨by simp,by simp,Or.inl rfl⟩,by simpa [zeroSt] using RowsOf.nil _ _,Sep.nil⟩,FrmL.none⟩
theorem Lay.read {mb e:Nat} {bx:List Ce} (L:Lay m0 ro m mb e bx out hp fr s.out s.heap s.frames) (hs:SmallS s):StR m out hp fr s :=
 SNew.read (ro:=ro) ⟨⟨L.base,L.base0,L.new⟩,L.out,L.heap,L.frames⟩ hs
end
def RunN (m:Mem) (x:Run) (v:Value) (m':Mem):Prop:=∃ ro out hp fr,v=.tuple #[stV x.s out hp fr,vb x.ok]/\SNew m ro m' out hp fr x.s
theorem Arr.up {ro:Nat->Nat} {m m' mx:Mem} {e sz k:Nat} {s:Sl} {l:List Ce} (h:Arr ro m e sz k s l) (hk:k ≠ 0) (h0:∀ b,b < mx.size->ro b=0) (hM:∀ b,mx.size<=b->b < m.size->m'[b]?=m[b]?):Arr ro m' e sz k s l :=
 h.keep (fun hc=>hM _ (Nat.le_of_not_lt fun hlt=>hk (by rw [← (h.blk hc).2]; exact h0 _ hlt)) (h.blk hc).1) fun _=>rfl
theorem SNew.rebase {mx m M M':Mem} {ro:Nat->Nat} {out hp fr:Sl} {s:St} (h:SNew mx ro M out hp fr s) (hx:Ext m mx) (hz:M.size<=M'.size) (hk:∀ b,mx.size<=b->b < M.size->M'[b]?=M[b]?) (hm:Ext m M'):SNew m ro M' out hp fr s:=by
 have h0:=h.bs.base0
 have hs:=hx.size
 refine ⟨⟨hm,fun b hb=>h0 b (by omega),fun b hb=>h.bs.new b (by omega)⟩,h.out.up (by decide) h0 hk,?_,?_⟩
 ·obtain ⟨css,a1,a2,a3⟩:=h.heap
  refine ⟨css,a1.up (by decide) h0 hk,a2.mono fun cs c ⟨f,e1,e2,e3⟩=>⟨f,e1,q2t e2 fun hne=>hk _ (e3 hne).2.1 (q2c e2 hne),fun hne=>?_⟩,a3⟩
  obtain ⟨g1,g2,cc,tail,g3,g4⟩:=e3 hne
  exact ⟨g1,by omega,cc,tail,g3,g4.congr (hk _ g2 g4.lt)⟩
 ·obtain ⟨css,a⟩:=h.frames
  exact ⟨css,a.arr.up (by decide) h0 hk,a.len,a.size,fun i cs f h1 h2=>by
   obtain ⟨r,o,hh,e,b1,b2,b3⟩:=a.each i cs f h1 h2
   exact ⟨r,o,hh,e,b1.up (by omega) h0 hk,b2.up (by omega) h0 hk,b3.up (by omega) h0 hk⟩⟩
theorem SNew.box {mx m M:Mem} {ro:Nat->Nat} {out hp fr:Sl} {s:St} (h:SNew mx ro M out hp fr s) (hx:Ext m mx) {nb:Nat} (h1:m.size<=nb) (h2:nb < mx.size) (o:Nat) (l:List Ce):SNew m ro (scells M nb o l) out hp fr s :=
 h.rebase hx (Nat.le_of_eq (q02 _ _ _ _).symm) (fun b hb _=>q0n _ _ _ _ (by omega)) ((hx.trans h.bs.base).scells h1 _ _)
theorem SNew.ext {m0 M M':Mem} {ro:Nat->Nat} {out hp fr:Sl} {s:St} (h:SNew m0 ro M out hp fr s) (hx:Ext M M'):SNew m0 ro M' out hp fr s:=h.rebase (Ext.refl _) hx.size (fun b _ hb=>hx.same b hb) (h.bs.base.trans hx)
theorem Bs.self (m:Mem):Bs m (fun _=>0) m:=⟨Ext.refl _,fun _ _=>rfl,fun _ _=>rfl⟩
section
variable {m:Mem} {d p out hp fr:Sl} {im:Image} {s:St}
theorem qfr {m m2 M:Mem} {nb:Nat} (hx:Ext m m2) (hM:Ext m2 M) (hb:m.size<=nb) {x:Run} (hx0:x=⟨zeroSt,false⟩) (l:List Ce):RunN m x (.tuple #[.agg #[vi (0:Int),vi (0:Int),vi (0:Int),vi (0:Int),Sl.v Sl.nil,Sl.v Sl.nil,Sl.v Sl.nil],vb false]) (scells M nb 0 l):=by
 subst hx0
 exact ⟨_,.nil,.nil,.nil,rfl,SNew.nil ((hx.trans hM).scells hb _ _)⟩
variable (him:ImageR m d p im) (hs:StR m out hp fr s) (hfit:FitS s) (hol:s.out.length<=10000000)
include him hs hfit hol

omit him hs in
theorem fit_sm:Sm 10000000 s:=hfit.sm hfit.lh hol
omit him hs in
theorem qs8 (many:Int):SmallS (runOf im s many).s:=by
 unfold runOf
 split
 ·rename_i h
  exact (qdk _ h.1).small (qdi _ h.1 (hfit.sm hfit.lh hol) (by omega)) (by omega)
 ·exact ⟨by simp [zeroSt],by simp [zeroSt],by simp [zeroSt],by simp [zeroSt],by simp [zeroSt]⟩
theorem qmv (many:Int):q08 Tryz.prog q3i [.agg #[Sl.v d,Sl.v p],stV s out hp fr,vi many] m (RunN m (runOf im s many)):=by
 apply qi7
 simp -zeta only [q0a,q09,rI,rS,rB,cI,cB,cS,dI,dB,dS,gk,rg]
 intro m1 m2 m3
 have s1:m1.size=m.size+1:=by simp [m1]
 have s2:m2.size=m.size+2:=by simp [m2,s1]
 have s3:m3.size=m.size+3:=by simp [m3,s2]
 have x3:Ext m m3:=(((Ext.refl m).pushed _).pushed _).pushed _
 clear_value m3
 have hl:∀ b ∈ [m2.size,m1.size,m.size],b < m3.size:=by simp; omega
 refine (qix (him.ext x3) (hs.ext x3) hfit).thenS (Ext.refl _) hl fun b4 m4 hb4 x4 _=>⟨b4,rfl,fun h1=>?_,fun h1=>?_⟩
 ·exact qfr x3 x4 (by omega) (by unfold runOf; rw [if_neg fun hh=>nb hb4 h1 hh.1]) _
 have hok:=yb hb4 h1
 refine (q0e _ _ _ _).thenS x4 hl fun b5 m5 hb5 x45 x5=>⟨b5,rfl,fun h2=>?_,fun h2=>?_⟩
 ·exact qfr x3 x5 (by omega) (by unfold runOf; rw [if_neg fun hh=>nb hb5 h2 hh.2]) _
 have hm:=yb hb5 h2
 obtain ⟨n,rfl⟩:∃ n:Nat,many=n:=⟨many.toNat,by omega⟩
 have hr:runOf im s (n:Int)=⟨steps im n s,true⟩:=by unfold runOf; rw [if_pos ⟨hok,hm⟩]; simp
 rw [hr]
 have X5:=x3.trans x5
 have z5:=X5.size
 have z35:=x5.size
 have hSm:=fit_sm hfit hol
 refine (qc9 (Bs.self m5) (fun _=>Nat.zero_le _) (hs.ext X5) (hok.small hSm (by omega))).mono ?_
 rintro _ m6 ⟨ro6,o6,h6,f6,rfl,N6,C6⟩
 have x6:=C6.toExt
 have z6:=x6.size
 refine ⟨x6.sam fun b hb=>x5.lt (hl b hb),_,_,_,_,o6,h6,f6,rfl,q16 (x6.same _ (by omega)) 0,q16 (x6.same _ (by omega)) 1,?_⟩
 intro m7
 have kb:Blk m7 m6.size q0l (SB d p s o6 h6 f6):=Blk.push m6 _ _
 have L7:=N6.lay (m2:=m7) (Ext.push m6 _) (Nat.le_refl _) kb
 have B7:Bx0 _ m7 [m2.size,m1.size,m.size]:=fun b hb=>⟨L7.base.lt (x5.lt (hl b hb)),L7.base0 b (x5.lt (hl b hb))⟩
 clear_value m7
 refine (qs6 L7 (him.ext X5) hok hSm n (by omega) (by omega)).mono ?_
 rintro _ m8 ⟨⟨nn,rfl⟩,ro8,o8,h8,f8,L8,t8⟩
 have hok8:=qdk n hok
 have hsm8:=hok8.small (qdi n hok hSm (by omega)) (by omega)
 generalize steps im n s=S at *
 refine ⟨t8.samB B7,nn,rfl,_,L8.box.get 2,_,L8.box.get 3,_,L8.box.get 4,_,L8.box.get 5,o8,L8.box.get 6,h8,L8.box.get 7,f8,L8.box.get 8,(qc9 (Bs.self m8) (fun _=>Nat.zero_le _) (L8.read hsm8) hsm8).mono ?_⟩
 rintro _ m9 ⟨ro9,o9,h9,f9,rfl,N9,C9⟩
 have x8:=L8.base
 have z8:=x8.size
 refine ⟨C9.toExt.sam fun b hb=>x8.lt (x5.lt (hl b hb)),_,_,_,_,o9,h9,f9,rfl,?_⟩
 have N10:=N9.box (X5.trans x8) (nb:=m2.size) (by omega) (by omega) 0 [.i S.status,.i S.value,.i S.calls,.i S.most,.s o9,.s h9,.s f9]
 exact ⟨ro9,o9,h9,f9,rfl,N10⟩
end
end
section
theorem SNew.layIn {m0:Mem} {ro:Nat->Nat} {m:Mem} {out hp fr:Sl} {s:St} (h:SNew m0 ro m out hp fr s) {mb e:Nat} {bx:List Ce} (hb:ro mb=1) (l:List Ce) (kb:Blk (scells m mb 0 l) mb e bx):Lay m0 ro (scells m mb 0 l) mb e bx out hp fr s.out s.heap s.frames:=by
 have C:Chg (fun k=>k=1) ro m ro (scells m mb 0 l):=Chg.scells h.bs.new hb _ _
 obtain ⟨b1,b2⟩:=(C.mono fun k hk=>by omega:To ro m ro _).base h.bs.base h.bs.base0
 exact ⟨b1,b2,C.new,kb,hb,h.out.chg C (by decide),h.heap.chg C (by decide) (by decide),h.frames.chg C fun k hk=>by omega⟩
theorem Lay.snew {m0:Mem} {ro:Nat->Nat} {m:Mem} {mb e:Nat} {bx:List Ce} {out hp fr:Sl} {s:St} (L:Lay m0 ro m mb e bx out hp fr s.out s.heap s.frames):SNew m0 ro m out hp fr s:=⟨⟨L.base,L.base0,L.new⟩,L.out,L.heap,L.frames⟩
section
variable {m:Mem} {d p out hp fr:Sl} {im:Image} {s:St}
def MkL (m3:Mem) (d p:Sl) (im:Image) (s:St) (o:Nat × Nat) (M:Mem):Prop:=o.2=0/\∃ ro out hp fr,Lay m3 ro M o.1 q0k (IB d p (q0j im) s out hp fr) out hp fr s.out s.heap s.frames
abbrev z10:List Ce:=[.s Sl.nil,.s Sl.nil,.i 0,.i 0,.i 0,.i 0,.i 0,.s Sl.nil,.s Sl.nil,.s Sl.nil]
variable (him:ImageR m d p im) (hs:StR m out hp fr s) (hfit:FitS s) (hol:s.out.length<=10000000)
include him hs hfit hol
set_option maxHeartbeats 1000000 in
theorem qdl (many:Int):q08 Tryz.prog q30 [.agg #[Sl.v d,Sl.v p],stV s out hp fr,vi many] m (RunN m (runOf im s many)):=by
 apply qi1
 simp -zeta only [q0a,q09,rI,rS,rB,cI,cB,cS,dI,dB,dS,gk,rg]
 intro m1 m2 m3
 have s1:m1.size=m.size+1:=by simp [m1]
 have s2:m2.size=m.size+2:=by simp [m2,s1]
 have s3:m3.size=m.size+3:=by simp [m3,s2]
 have x3:Ext m m3:=(((Ext.refl m).pushed _).pushed _).pushed _
 clear_value m3
 have hl:∀ b ∈ [m2.size,m1.size,m.size],b < m3.size:=by simp; omega
 refine (qk9 (him.ext x3) (hs.ext x3) hfit).thenS (Ext.refl _) hl fun b4 m4 hb4 x4 _=>⟨b4,rfl,fun h1=>?_,fun h1=>?_⟩
 ·exact qfr x3 x4 (by omega) (by unfold runOf; rw [if_neg fun hh=>nb hb4 h1 hh.1]) _
 have hok:=yb hb4 h1
 refine ⟨fun h2=>qfr x3 x4 (by omega) (by unfold runOf; rw [if_neg fun hh=>by simp at h2; omega]) _,fun h2=>⟨fun h3=>qfr x3 x4 (by omega) (by unfold runOf; rw [if_neg fun hh=>by simp at h3; omega]) _,fun h3=>?_⟩⟩
 have hm:0<=many/\many<=100000:=by simp at h2 h3; omega
 obtain ⟨n,rfl⟩:∃ n:Nat,many=n:=⟨many.toNat,by omega⟩
 have hr:runOf im s (n:Int)=⟨steps im n s,true⟩:=by unfold runOf; rw [if_pos ⟨hok,hm⟩]; simp
 rw [hr]
 have X4:=x3.trans x4
 have z4:=x4.size
 have hSm:=fit_sm hfit hol
 have hsml:=hok.small hSm (by omega)
 have ht:=hok.image.sigs.types
 have cc:∀ {M:Mem},Ext m4 M->Gets Tryz.prog q3j [Sl.v d] M (vi (q0j im)):=fun hx=>q8b (him.ext (X4.trans hx)).decls ht.len (fun dd hd=>qpa ht dd hd)
 have kp:∀ {M M':Mem} {b:Nat},Ext M M'->b < M.size->∀ i,gcell M' b i=gcell M b i:=fun hx hlt i=>q16 (hx.same _ hlt) i
 have cl:∀ {ro:Nat->Nat} {M:Mem} {K:Value->Mem->Prop},Bs m4 ro M->(∀ b,ro b<=1)->(∀ ro' o h f M',SNew m4 ro' M' o h f s->Chg (fun _=>False) ro M ro' M'->Ext M M'->M.size<=M'.size->K (stV s o h f) M')->q08 Tryz.prog q3m [stV s out hp fr] M K:=fun B hro hK =>
  (qjj B hro (hs.ext (X4.trans B.base)) hsml).mono fun _ M' ⟨ro',o,h,f,e,N,C⟩=>by rw [e]; exact hK ro' o h f M' N C C.toExt C.size
 have in1:∀ {M M':Mem},Ext m4 M->M'=M.push (.cells (vals z10) q0k)->Bs m4 (upd (fun _=>0) M.size 1) M'/\(∀ b,upd (fun _=>0) M.size 1 b<=1)/\Blk M' M.size q0k z10:=fun hx e=>by
  have hz:=hx.size
  subst e
  refine ⟨⟨hx.pushed _,fun b hb=>q1y (by omega),fun b hb=>q1y (by simp at hb; omega)⟩,fun b=>?_,Blk.push _ _ _⟩
  unfold upd; split
  ·omega
  ·exact Nat.zero_le _
 refine ⟨MkL m4 d p im s,⟨?_,?_⟩,?_⟩
 ·refine (cc (Ext.refl _)).mono ?_
  rintro _ m5 ⟨rfl,x5⟩
  have z5:=x5.size
  refine ⟨x5.sam fun b hb=>x4.lt (hl b hb),_,rfl,kp x5 (by omega) _,kp x5 (by omega) _,kp x5 (by omega) _,kp x5 (by omega) _,kp x5 (by omega) _,kp x5 (by omega) _,kp x5 (by omega) _,kp x5 (by omega) _,kp x5 (by omega) _,?_,?_⟩
  ·refine cl (ro:=fun _=>0) ⟨x5,fun _ _=>rfl,fun _ _=>rfl⟩ (fun _=>Nat.zero_le _) fun ro6 o h f m6 N6 C6 x6 z6=>?_
   refine ⟨x6.sam fun b hb=>x5.lt (x4.lt (hl b hb)),_,_,_,_,o,h,f,rfl,kp x6 (by omega) _,kp x6 (by omega) _,?_⟩
   intro m7
   have x7:Ext m6 m7:=Ext.push m6 _
   have kb:Blk m7 m6.size q0k z10:=Blk.push m6 _ _
   refine ⟨kp x7 (by omega) _,kp x7 (by omega) _,kp x7 (by omega) _,kp x7 (by omega) _,kp x7 (by omega) _,kp x7 (by omega) _,kp x7 (by omega) _,kp x7 (by omega) _,kp x7 (by omega) _,kp x7 (by omega) _,rfl,upd ro6 m6.size 1,o,h,f,?_⟩
   have x8:Ext m6 (scells m7 m6.size 0 [.s d,.s p,.i (q0j im),.i s.status,.i s.value,.i s.calls,.i s.most,.s o,.s h,.s f]):=x7.scells (Nat.le_refl _) _ _
   exact N6.lay x8 (Nat.le_refl _) (Blk.scells (m:=m7) (o:=0) kb)
  ·intro m6
   have x6:Ext m5 m6:=Ext.push m5 _
   have s6:m6.size=m5.size+1:=by simp [m6]
   obtain ⟨B6,le6,kb⟩:=in1 (M':=m6) x5 rfl
   clear_value m6
   refine ⟨kp x6 (by omega) _,kp x6 (by omega) _,kp x6 (by omega) _,kp x6 (by omega) _,kp x6 (by omega) _,kp x6 (by omega) _,kp x6 (by omega) _,kp x6 (by omega) _,kp x6 (by omega) _,kp x6 (by omega) _,cl B6 le6 fun ro7 o h f m7 N7 C7 x7 z7=>?_⟩
   refine ⟨x7.sam (by simp; omega),_,_,_,_,o,h,f,rfl,kp x7 (by omega) _,kp x7 (by omega) _,rfl,ro7,o,h,f,?_⟩
   exact N7.layIn (by rw [C7.role _ (by omega)]; exact q21 _ _ _) _ (Blk.scells (m:=m7) (o:=0) (kb.ext x7))
 ·intro m5
  have x5:Ext m4 m5:=Ext.push m4 _
  have s5:m5.size=m4.size+1:=by simp [m5]
  obtain ⟨B5,le5,kb⟩:=in1 (M':=m5) (Ext.refl m4) rfl
  clear_value m5
  refine ⟨kp x5 (by omega) _,kp x5 (by omega) _,kp x5 (by omega) _,kp x5 (by omega) _,kp x5 (by omega) _,kp x5 (by omega) _,kp x5 (by omega) _,kp x5 (by omega) _,kp x5 (by omega) _,kp x5 (by omega) _,(cc x5).mono ?_⟩
  rintro _ m6 ⟨rfl,x6⟩
  have z6:=x6.size
  refine ⟨x6.sam (by simp; omega),_,rfl,kp x6 (by omega) _,kp x6 (by omega) _,kp x6 (by omega) _,kp x6 (by omega) _,kp x6 (by omega) _,kp x6 (by omega) _,kp x6 (by omega) _,kp x6 (by omega) _,kp x6 (by omega) _,cl (B5.chg (Chg.ofExt _ x6 B5.new)) le5 fun ro7 o h f m7 N7 C7 x7 z7=>?_⟩
  refine ⟨x7.sam (by simp; omega),_,_,_,_,o,h,f,rfl,kp x7 (by omega) _,kp x7 (by omega) _,rfl,ro7,o,h,f,?_⟩
  exact N7.layIn (by rw [C7.role _ (by omega)]; exact q21 _ _ _) _ (Blk.scells (m:=m7) (o:=0) (kb.ext (x6.trans x7)))
 ·rintro ⟨mb,mo⟩ m5 ⟨rfl,ro5,o5,h5,f5,L5⟩
  simp only [] at L5
  have B5:Bx0 ro5 m5 [m2.size,m1.size,m.size]:=fun b hb=>⟨L5.base.lt (x4.lt (hl b hb)),L5.base0 b (x4.lt (hl b hb))⟩
  have fin:∀ {k:Nat} {m6:Mem},steps im n s=steps im k s->(∃ ro6 o6 h6 f6,Lay m4 ro6 m6 mb q0k (IB d p (q0j im) (steps im k s) o6 h6 f6) o6 h6 f6 (steps im k s).out (steps im k s).heap (steps im k s).frames) ->
    ∃ v0:Int,gcell m6 mb (0+3)=some (vi v0)/\∃ v1:Int,gcell m6 mb (0+3+1)=some (vi v1)/\∃ v2:Int,gcell m6 mb (0+3+2)=some (vi v2)/\∃ v3:Int,gcell m6 mb (0+3+3)=some (vi v3) /\
    ∃ v4:Sl,gcell m6 mb (0+3+4)=some (Sl.v v4)/\∃ v5:Sl,gcell m6 mb (0+3+5)=some (Sl.v v5)/\∃ v6:Sl,gcell m6 mb (0+3+6)=some (Sl.v v6) /\
    RunN m ⟨steps im n s,true⟩ (.tuple #[.agg #[vi v0,vi v1,vi v2,vi v3,Sl.v v4,Sl.v v5,Sl.v v6],vb true]) (scells m6 m2.size 0 [.i v0,.i v1,.i v2,.i v3,.s v4,.s v5,.s v6]):=fun {k m6} e ⟨ro6,o6,h6,f6,L6⟩=>by
   rw [e]
   exact ⟨_,L6.box.get 3,_,L6.box.get 4,_,L6.box.get 5,_,L6.box.get 6,o6,L6.box.get 7,h6,L6.box.get 8,f6,L6.box.get 9,ro6,o6,h6,f6,rfl,L6.snew.box X4 (by omega) (by omega) _ _⟩
  refine ⟨fun i M=>∃ k:Nat,i=k/\k<=n/\∃ ro6 o6 h6 f6,Lay m4 ro6 M mb q0k (IB d p (q0j im) (steps im k s) o6 h6 f6) o6 h6 f6 (steps im k s).out (steps im k s).heap (steps im k s).frames,fun i _=>((n:Int) - i).toNat,⟨0,rfl,Nat.zero_le _,ro5,o5,h5,f5,L5⟩,?_⟩
  rintro i m6 ⟨k,rfl,hk,ro6,o6,h6,f6,L6⟩
  have hok6:=qdk k hok
  have hS6:=qdi k hok hSm (by omega)
  have B6:Bx0 ro6 m6 [m2.size,m1.size,m.size]:=fun b hb=>⟨L6.base.lt (x4.lt (hl b hb)),L6.base0 b (x4.lt (hl b hb))⟩
  refine ⟨fun h7=>⟨_,L6.box.get 3,fun h8=>?_,fun h8=>?_⟩,fun h7=>?_⟩
  ·simp only [decide_eq_true_eq] at h7
   refine (qrr L6 (him.ext X4) hok6 hS6.fit (by have:=hS6.heap; omega) (by have:=hS6.out; omega)).mono ?_
   rintro _ m7 ⟨ro7,o7,h7',f7,L7,t7⟩
   have e:w64 ((k:Int)+1)=((k+1:Nat):Int):=q6l (n:=n) (by omega) (by omega)
   rw [e]
   refine ⟨t7.samB B6,⟨k+1,rfl,by omega,ro7,o7,h7',f7,by rw [qge]; exact L7⟩,?_⟩
   show ((n:Int) - ((k+1:Nat):Int)).toNat < ((n:Int) - (k:Int)).toNat
   omega
  ·simp at h8
   refine fin ?_ ⟨ro6,o6,h6,f6,L6⟩
   have h3:n=k+(n - k):=by omega
   rw [h3,qpx,qbz _ h8]
  ·simp only [decide_eq_false_iff_not] at h7
   have:k=n:=by omega
   subst this
   exact fin rfl ⟨ro6,o6,h6,f6,L6⟩
end
end
end Go.Proofs.YtpggcodlaajceaaGreat
section
/- The laws' helpers: states are marked and held; where the numbers of a new state lie. -/
namespace Go.Vc
def Mkd (m:Mem) (k:Int) (pos:List (Nat × Nat)):Prop:=∀ (j:Nat) (p:Nat × Nat),pos[j]?=some p->gcell m p.1 p.2=some (vi (k+j))
theorem Mkd.left {m:Mem} {k:Int} {p q:List (Nat × Nat)} (h:Mkd m k (p ++ q)):Mkd m k p:=fun j x hx=>h j x (by rw [List.getElem?_append_left (q04 hx)]; exact hx)
theorem Mkd.right {m:Mem} {k:Int} {p q:List (Nat × Nat)} (h:Mkd m k (p ++ q)):Mkd m (k+p.length) q:=fun j x hx=>by
 have:=h (p.length+j) x (by rw [List.getElem?_append_right (by omega),Nat.add_sub_cancel_left]; exact hx)
 rw [this]; congr 2; omega
theorem Mkd.head {m:Mem} {k:Int} {x:Nat × Nat} {q:List (Nat × Nat)} (h:Mkd m k (x :: q)):gcell m x.1 x.2=some (vi k)/\Mkd m (k+1) q:=by
 refine ⟨?_,fun j y hy=>?_⟩
 ·have:=h 0 x rfl; simpa using this
 ·have:=h (j+1) y (by simpa using hy)
  rw [this]; congr 2; omega
theorem Mkd.ext {m m':Mem} (hx:Ext m m') {k:Int} {p:List (Nat × Nat)} (h:Mkd m k p):Mkd m' k p:=fun j x hj=>hx.gcell (h j x hj)
theorem Mkd.part {m:Mem} {k:Int} {ps:List (List (Nat × Nat))} (h:Mkd m k ps.flatten) {i:Nat} {p:List (Nat × Nat)} (hi:ps[i]?=some p):Mkd m (k+(ps.take i).flatten.length) p:=by
 have e:ps.flatten=(ps.take i).flatten ++ (p ++ (ps.drop (i+1)).flatten):=by
  conv=>lhs; rw [← List.take_append_drop i ps,List.flatten_append]
  rw [List.drop_eq_getElem_cons (q04 hi),List.flatten_cons,(List.getElem?_eq_some_iff.1 hi).2]
 rw [e] at h
 exact h.right.left
theorem qpz {ps:List (List (Nat × Nat))} {i:Nat} {p:List (Nat × Nat)} (hi:ps[i]?=some p):(ps.take (i+1)).flatten.length=(ps.take i).flatten.length+p.length:=by
 rw [q06 hi]; simp
theorem qse {ps:List (List (Nat × Nat))} (i:Nat):(ps.take i).flatten.length<=ps.flatten.length:=by
 conv=>rhs; rw [← List.take_append_drop i ps,List.flatten_append]
 simp
theorem Walk.joinN {m:Mem} {b:Nat} {e:Row} {c:Nat}:∀ {n o:Nat} {P:Nat->Nat × Nat->Prop},(∀ i j q,P i q->P j q->i=j)->(∀ k,k < n->∃ p,Walk m (.row e) b (o+k*e.size) p/\p.Nodup/\(∀ q ∈ p,P k q)/\p.length<=c)->∃ pos,Walk m (.rows e n) b o pos/\pos.Nodup/\(∀ q ∈ pos,∃ k,k < n/\P k q)/\pos.length<=n*c
 | 0,o,P,_,_=>⟨[],.zero _ _ _,by simp,by simp,by simp⟩
 | n+1,o,P,hP,h=>by
  obtain ⟨p,h1,h2,h3,h4⟩:=h 0 (by omega)
  obtain ⟨ps,g1,g2,g3,g4⟩:=Walk.joinN (n:=n) (o:=o+e.size) (P:=fun k=>P (k+1)) (fun i j q hi hj=>by have:=hP _ _ q hi hj; omega) (fun k hk=>by
   obtain ⟨p,h1,h2⟩:=h (k+1) (by omega)
   have e1:o+(k+1)*e.size=o+e.size+k*e.size:=by rw [Nat.add_mul]; omega
   rw [e1] at h1; exact ⟨p,h1,h2⟩)
  refine ⟨p ++ ps,.succ (by simpa using h1) g1,?_,fun q hq=>?_,?_⟩
  ·rw [List.nodup_append]
   refine ⟨h2,g2,fun x hx y hy e=>?_⟩
   subst e
   obtain ⟨k,_,hk⟩:=g3 x hy
   have:=hP _ _ x (h3 x hx) hk
   omega
  ·rcases List.mem_append.1 hq with hq | hq
   ·exact ⟨0,by omega,h3 q hq⟩
   ·obtain ⟨k,h5,h6⟩:=g3 q hq
    exact ⟨k+1,by omega,h6⟩
  ·rw [List.length_append,Nat.add_mul]; omega
theorem Walk.nums {m:Mem} {s:Sl} {l:List Int} (hl:s.len=l.length) (hr:∀ (k:Nat) (x:Int),l[k]?=some x->gcell m s.blk (s.off+k)=some (vi x)) (hf:l ≠ []->∀ o,Vc.froz m s.blk o=false) :
  ∃ pos,Walk m (.rows (.int .nil) s.len) s.blk s.off pos/\pos.Nodup/\(∀ q ∈ pos,q.1=s.blk/\l ≠ [])/\pos.length<=l.length:=by
 obtain ⟨pos,h1,h2,h3,h4⟩:=Walk.joinN (m:=m) (b:=s.blk) (e:=.int .nil) (c:=1) (n:=s.len) (o:=s.off) (P:=fun k q=>q=(s.blk,s.off+k)/\l ≠ []) (fun i j q hi hj=>by have:=hi.1.symm.trans hj.1; simp at this; omega) (fun k hk=>by
  obtain ⟨x,hx⟩:=q00 (l:=l) (k:=k) (by omega)
  have hne:l ≠ []:=fun e=>by rw [e] at hx; simp at hx
  have e4:k*(Row.int .nil).size=k:=by simp [Row.size]
  rw [e4]
  exact ⟨[(s.blk,s.off+k)],.int (n:=x) (hr k x hx) (hf hne _) (.nil _ _),by simp,by simpa using hne,by simp⟩)
 exact ⟨pos,h1,h2,fun q hq=>by obtain ⟨k,_,e,hne⟩:=h3 q hq; rw [e]; exact ⟨rfl,hne⟩,by omega⟩
end Go.Vc
namespace Go.Proofs.YtpggcodlaajceaaGreat
open Go.Vc
theorem q4m {m:Mem} {s:Sl} {pos:List (Nat × Nat)} (h:Walk m (.rows (.int .nil) s.len) s.blk s.off pos) {k:Int} (hv:Mkd m k pos) (hk:0<=k/\k+pos.length<=4611686018427387904):Gets Tryz.prog q3g [Sl.v s,vi k] m (vi (k+pos.length)):=by
 apply qi9
 obtain ⟨hpl,hp⟩:=Walk.rowsI h
 refine forSI (σ:=Int) (n:=s.len) (by omega) (fun j c m'=>c=k+j/\Ext m m') ⟨by simp,Ext.refl _⟩ ?_
 rintro j c m1 I μ hj ⟨rfl,hx⟩ next
 refine ⟨fun h1=>?_,fun h1=>?_⟩
 ·simp only [decide_eq_true_eq] at h1
  obtain ⟨q1,_,_⟩:=hp j (by omega)
  have g:=hv j _ q1
  have e1:w64 (k+(j:Int)+1)=k+((j+1:Nat):Int):=by rw [q07 (by omega) (by omega)]; omega
  refine ⟨by omega,by omega,_,by simpa using hx.gcell g,fun h2=>by simp at h2,fun h2=>?_⟩
  rw [e1]
  exact next (by omega) _ _ ⟨rfl,hx⟩
 ·simp only [decide_eq_false_iff_not] at h1
  have:j=s.len:=by omega
  subst this
  exact ⟨by rw [hpl],hx⟩
theorem qkn {m:Mem} {s:Sl} {pos:List (Nat × Nat)} (h:Walk m (.rows q3s s.len) s.blk s.off pos) (hlim:s.len<=9223372036854775807) {k:Int} (hv:Mkd m k pos) (hk:0<=k/\k+pos.length<=4611686018427387904):Gets Tryz.prog q84 [Sl.v s,vi k] m (vi (k+pos.length)):=by
 apply qfx
 obtain ⟨ps,hpl,rfl,hp⟩:=Walk.split h
 refine forSI (σ:=Int) (n:=s.len) (by omega) (fun j c m'=>c=k+(ps.take j).flatten.length/\Ext m m') ⟨by simp,Ext.refl _⟩ ?_
 rintro j c m1 I μ hj ⟨rfl,hx⟩ next
 have en:Int.toNat (j:Int)=j:=by omega
 rw [en]
 refine ⟨fun h1=>?_,fun h1=>?_⟩
 ·simp only [decide_eq_true_eq] at h1
  obtain ⟨p,hpj⟩:=q00 (l:=ps) (k:=j) (by omega)
  have v:=hv.part hpj
  have wa:=hp j p hpj
  have le1:=qpz hpj
  have le2:=qse (ps:=ps) (j+1)
  obtain ⟨n0,p0,g0,_,rfl,wb⟩:=wa.inv_int
  obtain ⟨n1,p1,g1,_,rfl,wc⟩:=wb.inv_int
  obtain ⟨f,q1,q2,g2,_,wf,rfl,wd⟩:=wc.inv_sl
  have e2:=wd.inv_nil
  subst e2
  obtain ⟨a0,va⟩:=v.head
  obtain ⟨a1,vb'⟩:=va.head
  have v9:=vb'.left
  simp only [List.length_cons,List.append_nil] at le1
  simp only [q3s,Row.size] at g0 g1 g2 a0 a1
  generalize hK:k+((ps.take j).flatten.length:Int)=K at *
  have e1:w64 (K+1)=K+1:=q07 (by omega) (by omega)
  have e3:w64 (K+1+1)=K+1+1:=q07 (by omega) (by omega)
  refine ⟨by omega,by omega,_,hx.gcell a0,fun h2=>by simp at h2,fun h2=>⟨by omega,by omega,_,hx.gcell a1,fun h3=>by rw [e1] at h3; simp at h3,fun h3=>⟨by omega,by omega,f,hx.gcell g2,?_⟩⟩⟩
  rw [e1,e3]
  refine (q4m (wf.ext hx) (v9.ext hx) ⟨by omega,by omega⟩).mono ?_
  rintro _ m2 ⟨rfl,x2⟩
  refine ⟨_,rfl,fun h4=>by simp at h4; omega,fun h4=>next (by omega) _ _ ⟨?_,hx.trans x2⟩⟩
  rw [le1]; omega
 ·simp only [decide_eq_false_iff_not] at h1
  have:j=s.len:=by omega
  subst this
  rw [q0b (by omega)]
  exact ⟨rfl,hx⟩
theorem qjm {m:Mem} {s:Sl} {pos:List (Nat × Nat)} (h:Walk m (.rows q39 s.len) s.blk s.off pos) (hlim:s.len<=9223372036854775807) {k:Int} (hv:Mkd m k pos) (hk:0<=k/\k+pos.length<=4611686018427387904):Gets Tryz.prog q7d [Sl.v s,vi k] m (vi (k+pos.length)):=by
 apply qfk
 obtain ⟨ps,hpl,rfl,hp⟩:=Walk.split h
 refine forSI (σ:=Int) (n:=s.len) (by omega) (fun j c m'=>c=k+(ps.take j).flatten.length/\Ext m m') ⟨by simp,Ext.refl _⟩ ?_
 rintro j c m1 I μ hj ⟨rfl,hx⟩ next
 have en:Int.toNat (j:Int)=j:=by omega
 rw [en]
 refine ⟨fun h1=>?_,fun h1=>?_⟩
 ·simp only [decide_eq_true_eq] at h1
  obtain ⟨p,hpj⟩:=q00 (l:=ps) (k:=j) (by omega)
  have v:=hv.part hpj
  have wa:=hp j p hpj
  have le1:=qpz hpj
  have le2:=qse (ps:=ps) (j+1)
  obtain ⟨n0,p0,g0,_,rfl,wb⟩:=wa.inv_int
  obtain ⟨n1,p1,g1,_,rfl,wc⟩:=wb.inv_int
  obtain ⟨n2,p2,g2,_,rfl,wd⟩:=wc.inv_int
  obtain ⟨f3,q3,r3,g3,_,w3,rfl,we⟩:=wd.inv_sl
  obtain ⟨f4,q4,r4,g4,_,w4,rfl,wg⟩:=we.inv_sl
  obtain ⟨f5,q5,r5,g5,_,w5,rfl,wh⟩:=wg.inv_sl
  have e2:=wh.inv_nil
  subst e2
  obtain ⟨a0,va⟩:=v.head
  obtain ⟨a1,vb'⟩:=va.head
  obtain ⟨a2,vc⟩:=vb'.head
  have v3:=vc.left
  have v4:=vc.right.left
  have v5:=vc.right.right.left
  simp only [List.length_cons,List.append_nil,List.length_append] at le1
  simp only [q39,Row.size] at g0 g1 g2 g3 g4 g5 a0 a1 a2
  generalize hK:k+((ps.take j).flatten.length:Int)=K at *
  have e1:w64 (K+1)=K+1:=q07 (by omega) (by omega)
  have e3:w64 (K+1+1)=K+1+1:=q07 (by omega) (by omega)
  have e4:w64 (K+1+1+1)=K+1+1+1:=q07 (by omega) (by omega)
  refine ⟨by omega,by omega,_,hx.gcell a0,fun h2=>by simp at h2,fun h2=>⟨by omega,by omega,_,hx.gcell a1,fun h3=>by rw [e1] at h3; simp at h3,fun h3=>⟨by omega,by omega,_,hx.gcell a2,fun h4=>by rw [e1,e3] at h4; simp at h4,fun h4=>⟨by omega,by omega,f3,hx.gcell g3,?_⟩⟩⟩⟩
  rw [e1,e3,e4]
  refine (q4m (w3.ext hx) (v3.ext hx) ⟨by omega,by omega⟩).mono ?_
  rintro _ m2 ⟨rfl,x2⟩
  have X2:=hx.trans x2
  refine ⟨_,rfl,fun h5=>by simp at h5; omega,fun h5=>⟨by omega,by omega,f4,X2.gcell g4,(q4m (w4.ext X2) (v4.ext X2) ⟨by omega,by omega⟩).mono ?_⟩⟩
  rintro _ m3 ⟨rfl,x3⟩
  have X3:=X2.trans x3
  refine ⟨_,rfl,fun h6=>by simp at h6; omega,fun h6=>⟨by omega,by omega,f5,X3.gcell g5,(q4m (w5.ext X3) (v5.ext X3) ⟨by omega,by omega⟩).mono ?_⟩⟩
  rintro _ m4 ⟨rfl,x4⟩
  refine ⟨_,rfl,fun h7=>by simp at h7; omega,fun h7=>next (by omega) _ _ ⟨?_,X3.trans x4⟩⟩
  rw [le1]; omega
 ·simp only [decide_eq_false_iff_not] at h1
  have:j=s.len:=by omega
  subst this
  rw [q0b (by omega)]
  exact ⟨rfl,hx⟩
structure WkS (m:Mem) (out hp fr:Sl) (p0 p1 p2:List (Nat × Nat)):Prop where
 out:Walk m (.rows (.int .nil) out.len) out.blk out.off p0
 heap:Walk m (.rows q3s hp.len) hp.blk hp.off p1
 frames:Walk m (.rows q39 fr.len) fr.blk fr.off p2
 lim:hp.len<=9223372036854775807/\fr.len<=9223372036854775807
theorem WkS.ext {m m':Mem} {out hp fr:Sl} {p0 p1 p2:List (Nat × Nat)} (h:WkS m out hp fr p0 p1 p2) (hx:Ext m m'):WkS m' out hp fr p0 p1 p2:=⟨h.out.ext hx,h.heap.ext hx,h.frames.ext hx,h.lim⟩
theorem WkS.ints {m:Mem} {out hp fr:Sl} {p0 p1 p2:List (Nat × Nat)} (h:WkS m out hp fr p0 p1 p2):∀ p ∈ p0 ++ p1 ++ p2,∃ n,gcell m p.1 p.2=some (vi n):=fun p hp=>by
 rcases List.mem_append.1 hp with hp | hp
 ·rcases List.mem_append.1 hp with hp | hp
  ·exact h.out.ints p hp
  ·exact h.heap.ints p hp
 ·exact h.frames.ints p hp
theorem WkS.lt {m:Mem} {out hp fr:Sl} {p0 p1 p2:List (Nat × Nat)} (h:WkS m out hp fr p0 p1 p2):∀ p ∈ p0 ++ p1 ++ p2,p.1 < m.size:=fun p hp=>let ⟨_,hn⟩:=h.ints p hp; q5m hn
theorem WkS.mark {m m':Mem} {k:Int} {q:List (Nat × Nat)} {out hp fr:Sl} {p0 p1 p2:List (Nat × Nat)} (h:WkS m out hp fr p0 p1 p2) (g:MkR m k q m') (hq:∀ p ∈ q,∃ n,gcell m p.1 p.2=some (vi n)):WkS m' out hp fr p0 p1 p2:=⟨h.out.mark g hq,h.heap.mark g hq,h.frames.mark g hq,h.lim⟩
theorem qcd {m:Mem} {s:St} {out hp fr:Sl} {p0 p1 p2:List (Nat × Nat)} (h:WkS m out hp fr p0 p1 p2) {k:Int} (hk:0<=k/\k+(p0 ++ p1 ++ p2).length<=4611686018427387904):q08 Tryz.prog q5t [stV s out hp fr,vi k] m (MarkR k (p0 ++ p1 ++ p2) m):=by
 simp only [List.length_append] at hk
 apply qg2
 simp -zeta only [q0a,q09,rI,rS,rB,cI,cB,cS,dI,dB,dS,gk,rg]
 intro m1
 have x1:Ext m m1:=(Ext.refl m).pushed _
 have s1:m1.size=m.size+1:=by simp [m1]
 clear_value m1
 have h1:=h.ext x1
 have nm:∀ {q:List (Nat × Nat)} {K:Kind} {b o:Nat},Walk m K b o q->∀ z ∈ q,z.1 ≠ m.size:=fun h z hz e=>by have:=h.lt z hz; omega
 refine (q20 h1.out ⟨hk.1,by omega⟩).mono ?_
 rintro _ m2 ⟨rfl,g2⟩
 have s2:=g2.size
 have h2:=h1.mark g2 h1.out.ints
 refine ⟨fun b hb=>by simp at hb; subst hb; exact g2.blk _ (by omega) (nm h.out),_,rfl,(qlt h2.heap h.lim.1 ⟨by omega,by omega⟩).mono ?_⟩
 rintro _ m3 ⟨rfl,g3⟩
 have s3:=g3.size
 have h3:=h2.mark g3 h2.heap.ints
 refine ⟨fun b hb=>by simp at hb; subst hb; exact g3.blk _ (by omega) (nm h.heap),_,rfl,(qjy h3.frames h.lim.2 ⟨by omega,by omega⟩).mono ?_⟩
 rintro _ m4 ⟨rfl,g4⟩
 refine ⟨fun b hb=>by simp at hb; subst hb; exact g4.blk _ (by omega) (nm h.frames),_,rfl,?_⟩
 have e:k+(p0.length:Int)+(p1.length:Int)=k+((p0 ++ p1).length:Nat):=by simp; omega
 rw [e] at g4 ⊢
 have g:=(g2.trans g3).trans g4
 refine ⟨by simp; omega,?_⟩
 simpa using (MkR.nil x1 k).trans (by simpa using g)
theorem qcc {m:Mem} {s:St} {out hp fr:Sl} {p0 p1 p2:List (Nat × Nat)} (h:WkS m out hp fr p0 p1 p2) {k:Int} (hv:Mkd m k (p0 ++ p1 ++ p2)) (hk:0<=k/\k+(p0 ++ p1 ++ p2).length<=4611686018427387904):Gets Tryz.prog q5p [stV s out hp fr,vi k] m (vi (k+(p0 ++ p1 ++ p2).length)):=by
 simp only [List.length_append] at hk
 apply qgd
 simp -zeta only [q0a,q09,rI,rS,rB,cI,cB,cS,dI,dB,dS,gk,rg]
 intro m1
 have x1:Ext m m1:=(Ext.refl m).pushed _
 have s1:m1.size=m.size+1:=by simp [m1]
 clear_value m1
 have v0:=hv.left.left
 have v1:=hv.left.right
 have v2:=hv.right
 simp only [List.length_append] at v2
 refine (q4m (h.out.ext x1) (v0.ext x1) ⟨hk.1,by omega⟩).mono ?_
 rintro _ m2 ⟨rfl,x2⟩
 have X2:=x1.trans x2
 have s2:=x2.size
 refine ⟨x2.sam (by simp; omega),_,rfl,fun h=>by simp at h; omega,fun _=>(qkn (h.heap.ext X2) h.lim.1 (v1.ext X2) ⟨by omega,by omega⟩).mono ?_⟩
 rintro _ m3 ⟨rfl,x3⟩
 have X3:=X2.trans x3
 have s3:=x3.size
 have e:k+(p0.length:Int)+(p1.length:Int)=k+((p0.length+p1.length:Nat):Int):=by omega
 rw [e]
 refine ⟨x3.sam (by simp; omega),_,rfl,fun h=>by simp at h; omega,fun _=>(qjm (h.frames.ext X3) h.lim.2 (v2.ext X3) ⟨by omega,by omega⟩).mono ?_⟩
 rintro _ m4 ⟨rfl,x4⟩
 refine ⟨x4.sam (by simp; omega),_,rfl,fun h=>by simp at h; omega,fun _=>⟨?_,X3.trans x4⟩⟩
 simp only [List.length_append]; congr 1; omega
theorem Arr.nums {ro:Nat->Nat} {m:Mem} {k:Nat} {s:Sl} {l:List Int} (h:Arr ro m ty_int 1 k s (l.map Ce.i)):s.len=l.length/\∃ pos,Walk m (.rows (.int .nil) s.len) s.blk s.off pos/\pos.Nodup/\(∀ q ∈ pos,ro q.1=k)/\pos.length<=l.length:=by
 have hl:s.len=l.length:=by have:=h.len; simp at this; omega
 have hc:l ≠ []->s.cap ≠ 0:=fun hne e=>by have:=(h.empty e).1; simp at this; exact hne this
 obtain ⟨pos,h1,h2,h3,h4⟩:=Walk.nums hl (fun j x hj=>h.row j (.i x) (by simp [hj])) (fun hne o=>by
  rcases h.at' with e | ⟨b,c,tail,e,_,e3,_⟩
  ·exact absurd e (hc hne)
  ·rw [e]; exact e3.froz o)
 exact ⟨hl,pos,h1,h2,fun q hq=>by rw [(h3 q hq).1]; exact (h.blk (hc (h3 q hq).2)).2,h4⟩
theorem Arr.unfroz {ro:Nat->Nat} {m:Mem} {e sz k:Nat} {s:Sl} {l:List Ce} (h:Arr ro m e sz k s l) (hc:s.cap ≠ 0) (o:Nat):Vc.froz m s.blk o=false:=by
 rcases h.at' with h0 | ⟨b,c,tail,h1,_,h3,_⟩
 ·exact absurd h0 hc
 ·rw [h1]; exact h3.froz o
set_option maxHeartbeats 1000000 in
theorem SNew.walks {m0:Mem} {ro:Nat->Nat} {m:Mem} {out hp fr:Sl} {s:St} (h:SNew m0 ro m out hp fr s) (hs:SmallS s) :
  ∃ p0 p1 p2,WkS m out hp fr p0 p1 p2/\(p0 ++ p1 ++ p2).Nodup/\(∀ p ∈ p0 ++ p1 ++ p2,m0.size<=p.1)/\(p0 ++ p1 ++ p2).length<=1000000000000:=by
 have up:∀ {b k:Nat},ro b=k->k ≠ 0->m0.size<=b:=fun h1 h2=>Nat.le_of_not_lt fun hb=>h2 (by rw [← h1]; exact h.bs.base0 _ hb)
 obtain ⟨hol,p0,w0,n0,r0,l0⟩:=h.out.nums
 -- the heap
 have hhl:=h.heap.len
 have hfb:=hs.fl
 obtain ⟨p1,w1,n1,r1,l1⟩:∃ p1,Walk m (.rows q3s hp.len) hp.blk hp.off p1/\p1.Nodup/\(∀ q ∈ p1,(ro q.1=3 \/ ro q.1=0)/\m0.size<=q.1)/\p1.length<=hp.len*5:=by
  have hH:=h.heap
  obtain ⟨css,a1,a2,a3⟩:=h.heap
  have cell:∀ {i:Nat} {f:Sl},i < s.heap.length->gcell m hp.blk (hp.off+i*3+2)=some (Sl.v f)->∃ cs,css[i]?=some cs/\cs[2]?=some (.s f):=fun {i f} hi hg=>by
   obtain ⟨c,hc⟩:=q00 hi
   obtain ⟨cs,hcs⟩:=q00 (l:=css) (k:=i) (by rw [a2.len]; exact hi)
   obtain ⟨f',e,_⟩:=a2.each i cs c hcs hc
   have:=a1.row (i*3+2) (.s f') (q1z a2.size hcs (by rw [e]; rfl))
   rw [← Nat.add_assoc,hg] at this
   have:=Sl.v_inj.1 (Option.some.inj this)
   subst this
   exact ⟨cs,hcs,by rw [e]; rfl⟩
  obtain ⟨pos,g1,g2,g3,g4⟩:=Walk.joinN (m:=m) (b:=hp.blk) (e:=q3s) (c:=5) (n:=hp.len) (o:=hp.off)
   (P:=fun i q=>i < s.heap.length/\((q.1=hp.blk/\hp.off+i*3<=q.2/\q.2 < hp.off+i*3+2) \/ (ro q.1=0/\m0.size<=q.1/\∃ f,gcell m hp.blk (hp.off+i*3+2)=some (Sl.v f)/\f.len ≠ 0/\q.1=f.blk))) (fun i j q hi hj=>by
    have rb:=(hH.blk hi.1).1
    rcases hi with ⟨hi,h1 | ⟨h1,_,f,h2,h3,h4⟩⟩
    ·rcases hj with ⟨hj,k1 | ⟨k1,_⟩⟩
     ·omega
     ·rw [h1.1,rb] at k1; omega
    ·rcases hj with ⟨hj,k1 | ⟨k1,_,g,k2,k3,k4⟩⟩
     ·rw [k1.1,rb] at h1; omega
     ·by_cases e:i=j
      ·exact e
      ·obtain ⟨ci,q1,q2⟩:=cell hi h2
       obtain ⟨cj,q3,q4⟩:=cell hj k2
       exact absurd (h4.symm.trans k4) (a3 i j ci cj f g q1 q3 q2 q4 e h3 k3)) (fun i hi=>by
   have hi':i < s.heap.length:=by omega
   obtain ⟨c,hc⟩:=q00 hi'
   obtain ⟨f,c0,c1,c2,cf,cn⟩:=hH.get hc
   have hcap:hp.cap ≠ 0:=by have:=a1.le; omega
   have fz:=fun o=>a1.unfroz hcap o
   have hf3:=hfb c (q05 hc)
   obtain ⟨pf,wf,nf,rf,lf⟩:=Walk.nums (m:=m) (s:=f) cf.len (fun k x hk=>by have:=cf.at' hk; rwa [Nat.mul_one] at this) (fun hne o=>by
    obtain ⟨_,_,cc,tail,e,kb⟩:=cn hne
    exact kb.froz o)
   have rb:=(hH.blk hi').1
   refine ⟨(hp.blk,hp.off+i*3) :: (hp.blk,hp.off+i*3+1) :: (pf ++ []),.int c0 (fz _) (.int c1 (fz _) (.sl (s:=f) c2 (by have:=cf.lim; omega) wf (.nil _ _))),?_,fun q hq=>?_,by simp; omega⟩
   ·rw [List.append_nil,List.nodup_cons,List.nodup_cons]
    have nb:∀ q ∈ pf,q.1 ≠ hp.blk:=fun q hq e=>by
     obtain ⟨e1,hne⟩:=rf q hq
     have:=(cn hne).1
     rw [← e1,e,rb] at this; omega
    refine ⟨fun hm=>?_,fun hm=>nb _ hm rfl,nf⟩
    rcases List.mem_cons.1 hm with hm | hm
    ·simp at hm
    ·exact nb _ hm rfl
   ·rw [List.append_nil] at hq
    refine ⟨hi',?_⟩
    rcases List.mem_cons.1 hq with rfl | hq
    ·exact Or.inl ⟨rfl,by simp only []; omega,by simp only []; omega⟩
    rcases List.mem_cons.1 hq with rfl | hq
    ·exact Or.inl ⟨rfl,by simp only []; omega,by simp only []; omega⟩
    ·obtain ⟨e1,hne⟩:=rf q hq
     have:=cn hne
     exact Or.inr ⟨by rw [e1]; exact this.1,by rw [e1]; exact this.2.1,f,c2,fun e=>hne (List.length_eq_zero_iff.1 (by rw [← cf.len]; exact e)),e1⟩)
  refine ⟨pos,g1,g2,fun q hq=>?_,g4⟩
  obtain ⟨i,_,hi,h1 | ⟨h1,h2,_⟩⟩:=g3 q hq
  ·have:=(hH.blk hi).1
   rw [h1.1]; exact ⟨Or.inl this,up this (by decide)⟩
  ·exact ⟨Or.inr h1,h2⟩
 -- the frames
 obtain ⟨hfl,p2,w2,n2,r2,l2⟩:fr.len=s.frames.length/\∃ p2,Walk m (.rows q39 fr.len) fr.blk fr.off p2/\p2.Nodup/\(∀ q ∈ p2,4<=ro q.1)/\p2.length<=fr.len*3000003:=by
  obtain ⟨css,a1,a2,a3,a4⟩:=h.frames
  have hfl:fr.len=s.frames.length:=by have:=a1.len; rw [q0g a3,a2] at this; omega
  refine ⟨hfl,?_⟩
  have rb:0 < fr.len->ro fr.blk=4:=fun hp=>(a1.blk (by have:=a1.le; omega)).2
  obtain ⟨pos,g1,g2,g3,g4⟩:=Walk.joinN (m:=m) (b:=fr.blk) (e:=q39) (c:=3000003) (n:=fr.len) (o:=fr.off)
   (P:=fun i q=>0 < fr.len/\((q.1=fr.blk/\fr.off+i*6<=q.2/\q.2 < fr.off+i*6+3) \/ (10+3*i<=ro q.1/\ro q.1<=12+3*i))) (fun i j q hi hj=>by
    have:=rb hi.1
    rcases hi with ⟨_,h1 | h1⟩
    ·rcases hj with ⟨_,k1 | k1⟩
     ·omega
     ·rw [h1.1,this] at k1; omega
    ·rcases hj with ⟨_,k1 | k1⟩
     ·rw [k1.1,this] at h1; omega
     ·omega) (fun i hi=>by
   obtain ⟨f,hf⟩:=q00 (l:=s.frames) (k:=i) (by omega)
   obtain ⟨cs,hcs⟩:=q00 (l:=css) (k:=i) (by omega)
   obtain ⟨r,o,e,ec,b1,b2,b3⟩:=a4 i cs f hcs hf
   have hcap:fr.cap ≠ 0:=by have:=a1.le; omega
   have fz:=fun o=>a1.unfroz hcap o
   have hb:=hs.frames f (q05 hf)
   obtain ⟨hl1,q1,w1,d1,e1,l1⟩:=b1.nums
   obtain ⟨hl2,q2,w2,d2,e2,l2⟩:=b2.nums
   obtain ⟨hl3,q3,w3,d3,e3,l3⟩:=b3.nums
   have row:∀ (j:Nat) (x:Ce),[Ce.i f.proc,.i f.pc,.i f.dst,.s r,.s o,.s e][j]?=some x->gcell m fr.blk (fr.off+i*6+j)=some x.v:=fun j x hx=>by
    have:=a1.row (i*6+j) x (q1z a3 hcs (by rw [ec]; exact hx))
    rwa [← Nat.add_assoc] at this
   have rb':=rb (by omega)
   have big:∀ q ∈ q1 ++ (q2 ++ (q3 ++ [])),10+3*i<=ro q.1/\ro q.1<=12+3*i:=fun q hq=>by
    simp only [List.append_nil,List.mem_append] at hq
    rcases hq with hq | hq | hq
    ·rw [e1 q hq]; omega
    ·rw [e2 q hq]; omega
    ·rw [e3 q hq]; omega
   have nb:∀ q ∈ q1 ++ (q2 ++ (q3 ++ [])),q.1 ≠ fr.blk:=fun q hq e=>by have:=big q hq; rw [e,rb'] at this; omega
   refine ⟨(fr.blk,fr.off+i*6) :: (fr.blk,fr.off+i*6+1) :: (fr.blk,fr.off+i*6+1+1) :: (q1 ++ (q2 ++ (q3 ++ []))),.int (row 0 _ rfl) (fz _) (.int (row 1 _ rfl) (fz _) (.int (row 2 _ rfl) (fz _) (.sl (s:=r) (row 3 _ rfl) (by omega) w1 (.sl (s:=o) (row 4 _ rfl) (by omega) w2 (.sl (s:=e) (row 5 _ rfl) (by omega) w3 (.nil _ _)))))),?_,fun q hq=>⟨by omega,?_⟩,?_⟩
   ·rw [List.nodup_cons,List.nodup_cons,List.nodup_cons]
    refine ⟨fun hm=>?_,fun hm=>?_,fun hm=>nb _ hm rfl,?_⟩
    ·rcases List.mem_cons.1 hm with hm | hm
     ·simp at hm
     ·rcases List.mem_cons.1 hm with hm | hm
      ·simp at hm; omega
      ·exact nb _ hm rfl
    ·rcases List.mem_cons.1 hm with hm | hm
     ·simp at hm
     ·exact nb _ hm rfl
    ·rw [List.append_nil,List.nodup_append,List.nodup_append]
     refine ⟨d1,⟨d2,d3,fun x hx y hy e=>?_⟩,fun x hx y hy e=>?_⟩
     ·subst e; have:=e2 x hx; have:=e3 x hy; omega
     ·subst e
      rcases List.mem_append.1 hy with hy | hy
      ·have:=e1 x hx; have:=e2 x hy; omega
      ·have:=e1 x hx; have:=e3 x hy; omega
   ·rcases List.mem_cons.1 hq with rfl | hq
    ·exact Or.inl ⟨rfl,by simp only []; omega,by simp only []; omega⟩
    rcases List.mem_cons.1 hq with rfl | hq
    ·exact Or.inl ⟨rfl,by simp only []; omega,by simp only []; omega⟩
    rcases List.mem_cons.1 hq with rfl | hq
    ·exact Or.inl ⟨rfl,by simp only []; omega,by simp only []; omega⟩
    ·exact Or.inr (big q hq)
   ·simp; omega)
  refine ⟨pos,g1,g2,fun q hq=>?_,g4⟩
  obtain ⟨i,_,hp,h1 | h1⟩:=g3 q hq
  ·rw [h1.1,rb hp]; exact Nat.le_refl _
  ·omega
 have hd:=hs.depth
 have hh:=hs.heap
 have ho:=hs.out
 refine ⟨p0,p1,p2,⟨w0,w1,w2,by omega⟩,?_,fun q hq=>?_,?_⟩
 ·rw [List.nodup_append,List.nodup_append]
  refine ⟨⟨n0,n1,fun x hx y hy e=>?_⟩,n2,fun x hx y hy e=>?_⟩
  ·subst e; have:=r0 x hx; have:=(r1 x hy).1; omega
  ·subst e
   have:=r2 x hy
   rcases List.mem_append.1 hx with hx | hx
   ·have:=r0 x hx; omega
   ·have:=(r1 x hx).1; omega
 ·rcases List.mem_append.1 hq with hq | hq
  ·rcases List.mem_append.1 hq with hq | hq
   ·exact up (r0 q hq) (by decide)
   ·exact (r1 q hq).2
  ·exact up rfl (by have:=r2 q hq; omega)
 ·simp only [List.length_append]; omega
end Go.Proofs.YtpggcodlaajceaaGreat
end
namespace Go.Proofs.YtpggcodlaajceaaGreat
open Go.Vc
section
theorem qlh {m:Mem} {d p:Sl} {p0 p1:List (Nat × Nat)} (h0:Walk m (.rows q53 d.len) d.blk d.off p0) (h1:Walk m (.rows q55 p.len) p.blk p.off p1) (hl:d.len<=9223372036854775807/\p.len<=9223372036854775807) {k:Int} (hk:0<=k/\k+(p0 ++ p1).length<=4611686018427387904) :
  q08 Tryz.prog q86 [.agg #[Sl.v d,Sl.v p],vi k] m (MarkR k (p0 ++ p1) m):=by
 rw [List.length_append] at hk
 apply qga
 simp -zeta only [q0a,q09,rI,rS,rB,cI,cB,cS,dI,dB,dS,gk,rg]
 intro m1
 have x1:Ext m m1:=(Ext.refl m).pushed _
 have s1:m1.size=m.size+1:=by simp [m1]
 clear_value m1
 have nm:∀ {q:List (Nat × Nat)} {K:Kind} {b o:Nat},Walk m K b o q->∀ z ∈ q,z.1 ≠ m.size:=fun h z hz e=>by have:=h.lt z hz; omega
 refine (ql0 (h0.ext x1) hl.1 (k:=k) ⟨hk.1,by omega⟩).mono ?_
 rintro _ m2 ⟨rfl,g1⟩
 have s2:=g1.size
 refine ⟨fun b hb=>?_,_,rfl,?_⟩
 ·simp at hb; subst hb; exact g1.blk _ (by omega) (nm h0)
 refine (qlp ((h1.ext x1).mark g1 (h0.ext x1).ints) hl.2 (k:=k+p0.length) ⟨by omega,by omega⟩).mono ?_
 rintro _ m3 ⟨rfl,g2⟩
 refine ⟨fun b hb=>?_,_,rfl,?_⟩
 ·simp at hb; subst hb; exact g2.blk _ (by omega) (nm h1)
 have g:=(MkR.nil x1 k).trans (by simpa using g1.trans g2)
 exact ⟨by rw [List.length_append]; congr 1; omega,by simpa using g⟩
theorem OutR.walk {m m' M:Mem} {s:Sl} {l:List Int} (h:OutR m m' s l) (hM:l ≠ []->M[s.blk]?=m'[s.blk]?):∃ pos,Walk M (.rows (.int .nil) s.len) s.blk s.off pos/\(∀ p ∈ pos,m.size<=p.1/\p.1=s.blk/\p.1 < m'.size)/\pos.length=l.length/\pos.Nodup/\∀ (j:Nat),j < l.length->pos[j]?=some (s.blk,s.off+j):=by
 obtain ⟨hl,hi,ho⟩:=h
 have hlen:=hi.len
 by_cases hne:l=[]
 ·subst hne
  simp at hlen
  rw [hlen]
  exact ⟨[],.zero _ _ _,by simp,rfl,by simp,by simp⟩
 ·have hO:=ho hne
  obtain ⟨b,c,tail,e1,e2,e3,_,_⟩:∃ b c tail,s=.mk b 0 s.len c/\m.size<=b/\Blk m' b ty_int (l.map Ce.i ++ tail)/\(l.map Ce.i ++ tail).length=c*1/\s.len<=c:=by
   rcases hO.at' with e | e
   ·subst e; simp at hlen; exact absurd (List.length_eq_zero_iff.1 hlen.symm) hne
   ·exact e
  have hb:s.blk=b/\s.off=0:=by rw [e1]; exact ⟨rfl,rfl⟩
  have hM':=hM hne
  have k3:Blk M b ty_int (l.map Ce.i ++ tail):=e3.congr (by rw [← hb.1]; exact hM')
  obtain ⟨pos,w,q,_⟩:=Walk.join (m:=M) (b:=s.blk) (e:=.int .nil) (P:=fun p=>m.size<=p.1/\p.1=s.blk/\p.1 < m'.size) (c:=1) (n:=s.len) (o:=s.off) fun k hk=>by
   obtain ⟨x,hx⟩:=q00 (l:=l) (k:=k) (by omega)
   have e4:k*(Row.int .nil).size=k:=by simp [Row.size]
   rw [e4]
   have hg:gcell M s.blk (s.off+k)=some (vi x):=by
    rw [hb.1,hb.2,k3.get,Nat.zero_add,List.getElem?_append_left (by simp; omega)]
    simp [hx,Ce.v]
   exact ⟨[(s.blk,s.off+k)],.int (n:=x) hg (by rw [hb.1]; exact k3.froz _) (.nil _ _),by simp [hb.1,e2,e3.lt],by simp⟩
  obtain ⟨hpl,hp⟩:=Walk.rowsI w
  refine ⟨pos,w,q,by omega,?_,fun j hj=>(hp j (by omega)).1⟩
  rw [List.nodup_iff_pairwise_ne,List.pairwise_iff_getElem]
  intro i j hi' hj' hij e
  have h1:=(hp i (by omega)).1
  have h2:=(hp j (by omega)).1
  rw [List.getElem?_eq_getElem hi'] at h1
  rw [List.getElem?_eq_getElem hj'] at h2
  rw [Option.some.inj h1,Option.some.inj h2] at e
  simp at e
  omega
end
section
def LawR (m:Mem) (v:Value) (m':Mem):Prop:=v=vb true/\Ext m m'
theorem q3n.walks {m0 m:Mem} {q0 q1:Sl} {x:Image} (h:q3n m0 m [.s q0,.s q1] x) (hs:qa3 x) :
  ∃ p0 p1,Walk m (.rows q53 q0.len) q0.blk q0.off p0/\Walk m (.rows q55 q1.len) q1.blk q1.off p1/\(∀ p ∈ p0 ++ p1,m0.size<=p.1/\p.1 < m.size)/\(p0 ++ p1).length<=4000000000000000000/\q0.len<=9223372036854775807/\q1.len<=9223372036854775807:=by
 obtain ⟨q0',q1',he,h0,h1⟩:=h
 simp only [List.cons.injEq,Ce.s.injEq,and_true] at he
 obtain ⟨rfl,rfl⟩:=he
 obtain ⟨p0,w0,b0,l0⟩:=q6j.walk h0 hs.1
 obtain ⟨p1,w1,b1,l1⟩:=q6p.walk h1 hs.2
 have v0:=CpS.len (sz:=2) h0
 have v1:=CpS.len (sz:=4) h1
 have n0:=hs.1.1
 have n1:=hs.2.1
 refine ⟨p0,p1,w0,w1,fun p hp=>?_,by rw [List.length_append]; omega,by omega,by omega⟩
 rcases List.mem_append.1 hp with hp | hp
 ·exact ⟨b0 p hp,w0.lt p hp⟩
 ·exact ⟨b1 p hp,w1.lt p hp⟩
end
section
structure Fit64 (s:St):Prop where
 calls:In64 s.calls
 heap:FitH s.heap
 frames:∀ f ∈ s.frames,FitF f
theorem Fit64.fit {s:St} (h:Fit64 s) (hs:q8g s):FitS s/\s.out.length<=10000000:=by
 have h1:=hs.1
 have h2:=hs.2.1.1
 have h3:=hs.2.2.1
 refine ⟨⟨h.calls,h.heap,h.frames,by omega,by omega,fun f hf=>?_⟩,by omega⟩
 have:=hs.2.2.2 f hf
 have a:=this.1
 have b:=this.2.1
 have c:=this.2.2
 omega
theorem q32.parts {m0 m:Mem} {x:St} {q4 q5 q6:Sl} (h:q32 m0 m [.i x.status,.i x.value,.i x.calls,.i x.most,.s q4,.s q5,.s q6] x):CpI m0 m q4 x.out/\q5q m0 m q5 x.heap/\q4z m0 m q6 x.frames:=by
 obtain ⟨a,b,c,e,h1,h2,h3⟩:=h
 simp only [List.cons.injEq,Ce.s.injEq,true_and,and_true] at e
 obtain ⟨rfl,rfl,rfl⟩:=e
 exact ⟨h1,h2,h3⟩
theorem q32.read {m0 m:Mem} {x:St} {q4 q5 q6:Sl} (h:q32 m0 m [.i x.status,.i x.value,.i x.calls,.i x.most,.s q4,.s q5,.s q6] x) (hs:q8g x):StR m q4 q5 q6 x:=by
 obtain ⟨h1,h2,h3⟩:=h.parts
 exact ⟨q03.ofOwn h1 (by have:=hs.1; omega),q5q.read h2 hs.2.1,q4z.read h3 hs.2.2⟩
theorem q32.walks {m0 m:Mem} {x:St} {q4 q5 q6:Sl} (h:q32 m0 m [.i x.status,.i x.value,.i x.calls,.i x.most,.s q4,.s q5,.s q6] x) (hs:q8g x) :
  ∃ p0 p1 p2,WkS m q4 q5 q6 p0 p1 p2/\(∀ p ∈ p0 ++ p1 ++ p2,m0.size<=p.1)/\(p0 ++ p1 ++ p2).length<=10000000000000:=by
 obtain ⟨h1,h2,h3⟩:=h.parts
 obtain ⟨p0,w0,b0,l0⟩:=CpI.walk h1 hs.1
 obtain ⟨p1,w1,b1,l1⟩:=q5q.walk h2 hs.2.1
 obtain ⟨p2,w2,b2,l2⟩:=q4z.walk h3 hs.2.2
 have v1:=CpS.len (sz:=2) h2
 have v2:=CpS.len (sz:=5) h3
 have n1:=hs.2.1.1
 have n2:=hs.2.2.1
 refine ⟨p0,p1,p2,⟨w0,w1,w2,by omega⟩,fun p hp=>?_,by simp only [List.length_append]; omega⟩
 rcases List.mem_append.1 hp with hp | hp
 ·rcases List.mem_append.1 hp with hp | hp
  ·exact b0 p hp
  ·exact b1 p hp
 ·exact b2 p hp
abbrev stL (s:St) (o h f:Sl):List Ce:=[.i s.status,.i s.value,.i s.calls,.i s.most,.s o,.s h,.s f]
structure Dr (m3:Mem) (im:Image) (s:St) (x:Run) (M:Mem) (a:Option (Sl × Sl)) (b:Option (Sl × Sl × Sl)) (r:Option (Sl × Sl × Sl)) (ob:Option Nat):Prop where
 ext:Ext m3 M
 img:∀ y,a=some y->ImageR M y.1 y.2 im
 st:∀ y,b=some y->StR M y.1 y.2.1 y.2.2 s
 box:∀ o,ob=some o->m3.size<=o/\Blk M o q1s z7
 res:∀ y,r=some y->∃ ro,SNew m3 ro M y.1 y.2.1 y.2.2 x.s/\∀ o,ob=some o->∀ l,SNew m3 ro (scells M o 0 l) y.1 y.2.1 y.2.2 x.s
def DrK (m3:Mem) (x:Run) (w:Nat × Nat) (ok:Bool) (M:Mem):Prop:=w.2=0/\ok=x.ok/\Ext m3 M/\m3.size<=w.1/\∃ ro o h f,SNew m3 ro M o h f x.s/\Blk M w.1 q1s (stL x.s o h f)
section
variable {m3:Mem} {im:Image} {s:St} {x:Run} {M M2:Mem} {a:Option (Sl × Sl)} {b r:Option (Sl × Sl × Sl)} {ob:Option Nat}
theorem Dr.mi (h:Dr m3 im s x M none b none ob) {r0 r1:Sl} (hx:Ext M M2) (hi:ImageR M2 r0 r1 im):Dr m3 im s x M2 (some (r0,r1)) b none ob :=
 ⟨h.ext.trans hx,fun y e=>by cases e; exact hi,fun y e=>(h.st y e).ext hx,fun o e=>⟨(h.box o e).1,(h.box o e).2.ext hx⟩,fun y e=>by cases e⟩
theorem Dr.ms (h:Dr m3 im s x M a none none ob) {o1 o2 o3:Sl} (hx:Ext M M2) (hi:StR M2 o1 o2 o3 s):Dr m3 im s x M2 a (some (o1,o2,o3)) none ob :=
 ⟨h.ext.trans hx,fun y e=>(h.img y e).ext hx,fun y e=>by cases e; exact hi,fun o e=>⟨(h.box o e).1,(h.box o e).2.ext hx⟩,fun y e=>by cases e⟩
theorem Dr.mt (h:Dr m3 im s x M a b none ob) {ro:Nat->Nat} {o1 o2 o3:Sl} (N:SNew M ro M2 o1 o2 o3 x.s):Dr m3 im s x M2 a b (some (o1,o2,o3)) ob :=
 ⟨h.ext.trans N.bs.base,fun y e=>(h.img y e).ext N.bs.base,fun y e=>(h.st y e).ext N.bs.base,fun o e=>⟨(h.box o e).1,(h.box o e).2.ext N.bs.base⟩,fun y e=>by
  cases e
  exact ⟨ro,N.rebase h.ext (Nat.le_refl _) (fun _ _ _=>rfl) (h.ext.trans N.bs.base),fun o e l=>N.box h.ext (h.box o e).1 (h.box o e).2.lt _ _⟩⟩
theorem Dr.mb (h:Dr m3 im s x M a b r none) (e:M2=M.push (.cells (vals z7) q1s)):Dr m3 im s x M2 a b r (some M.size):=by
 have hx:Ext M M2:=by rw [e]; exact Ext.push _ _
 refine ⟨h.ext.trans hx,fun y e=>(h.img y e).ext hx,fun y e=>(h.st y e).ext hx,fun o e2=>?_,fun y e2=>?_⟩
 ·cases e2; exact ⟨h.ext.size,by rw [e]; exact Blk.push _ _ _⟩
 ·obtain ⟨ro,N,_⟩:=h.res y e2
  refine ⟨ro,N.ext hx,fun o e3 l=>?_⟩
  cases e3
  exact N.ext (hx.scells (Nat.le_refl _) _ _)
theorem Dr.fin {o1 o2 o3:Sl} {o:Nat} (h:Dr m3 im s x M a b (some (o1,o2,o3)) (some o)):DrK m3 x (o,0) x.ok (scells M o 0 (stL x.s o1 o2 o3)):=by
 obtain ⟨ro,_,N⟩:=h.res _ rfl
 obtain ⟨h1,h2⟩:=h.box o rfl
 have N':=N o rfl (stL x.s o1 o2 o3)
 exact ⟨rfl,rfl,N'.bs.base,h1,ro,o1,o2,o3,N',Blk.scells (m:=M) (o:=0) h2⟩
end
end
section
set_option maxRecDepth 10000 in
set_option maxHeartbeats 4000000 in
theorem qdu {m:Mem} {d p out hp fr:Sl} {im:Image} {s:St} (him:ImageR m d p im) (hst:StR m out hp fr s) (h64:Fit64 s) (many:Int):q08 Tryz.prog q7q [.agg #[Sl.v d,Sl.v p],stV s out hp fr,vi many] m (LawR m):=by
 apply qbk
 simp -zeta only [q0a,q09,rI,rS,rB,cI,cB,cS,dI,dB,dS,gk,rg]
 intro m1 m2
 have s1:m1.size=m.size+1:=by simp [m1]
 have s2:m2.size=m.size+2:=by simp [m2,s1]
 have x2:Ext m m2:=((Ext.refl m).pushed _).pushed _
 clear_value m2
 have hI:∀ {M:Mem},Ext m M->ImageR M d p im:=fun hx=>him.ext hx
 have hS:∀ {M:Mem},Ext m M->StR M out hp fr s:=fun hx=>hst.ext hx
 have l2:∀ b ∈ [m1.size,m.size],b < m2.size:=by simp; omega
 refine (qns (hI x2).decls (hI x2).procs (left:=1048576) ⟨by decide,by decide⟩).mono ?_
 rintro _ m3 ⟨n,rfl,hn,hsm,u3⟩
 have x3:=x2.trans u3
 have z3:=u3.size
 refine ⟨u3.sam l2,n,rfl,fun _=>⟨rfl,x3⟩,fun h=>?_⟩
 simp only [decide_eq_false_iff_not] at h
 have hsI:qa3 im:=hsm (by omega)
 refine (qof (hS x3).out (hS x3).heap (hS x3).frames (left:=n) ⟨by omega,by omega⟩).mono ?_
 rintro _ m4 ⟨n2,rfl,hn2,hsm2,u4⟩
 have x4:=x3.trans u4
 have z4:=u4.size
 refine ⟨u4.sam fun b hb=>u3.lt (l2 b hb),n2,rfl,fun _=>⟨rfl,x4⟩,fun h'=>?_⟩
 simp only [decide_eq_false_iff_not] at h'
 have hsS:q8g s:=hsm2 (by omega)
 clear h h' hsm hsm2 hn hn2
 obtain ⟨hfit,hol⟩:=h64.fit hsS
 obtain ⟨x,hX⟩:∃ x,x=runOf im s many:=⟨_,rfl⟩
 have hsml:SmallS x.s:=by rw [hX]; exact qs8 hfit hol many
 have kp:∀ {M M':Mem} {b:Nat},Ext M M'->b < M.size->∀ i,gcell M' b i=gcell M b i:=fun hx hlt i=>q16 (hx.same _ hlt) i
 have cI:∀ {B M:Mem} {b:Option (Sl × Sl × Sl)} {ob:Option Nat} {K:Value->Mem->Prop},Ext m B->Dr B im s x M none b none ob->(∀ r0 r1 M',Dr B im s x M' (some (r0,r1)) b none ob->Ext M M'->M.size<=M'.size->K (.agg #[Sl.v r0,Sl.v r1]) M')->q08 Tryz.prog q2v [.agg #[Sl.v d,Sl.v p]] M K:=fun hB h hK =>
  (q9r (hI (hB.trans h.ext)).decls (hI (hB.trans h.ext)).procs hsI).mono fun _ M' ⟨r0,r1,e,c,hx⟩=>by rw [e]; exact hK r0 r1 M' (h.mi hx (c.read hsI)) hx hx.size
 have cS:∀ {B M:Mem} {a:Option (Sl × Sl)} {ob:Option Nat} {K:Value->Mem->Prop},Ext m B->Dr B im s x M a none none ob->(∀ o1 o2 o3 M',Dr B im s x M' a (some (o1,o2,o3)) none ob->Ext M M'->M.size<=M'.size->K (stV s o1 o2 o3) M')->q08 Tryz.prog q26 [stV s out hp fr] M K:=fun hB h hK =>
  (q9v (hS (hB.trans h.ext)).out (hS (hB.trans h.ext)).heap (hS (hB.trans h.ext)).frames hsS).mono fun _ M' ⟨o1,o2,o3,e,c,hx⟩=>by rw [e]; exact hK o1 o2 o3 M' (h.ms hx (c.read hsS)) hx hx.size
 have cT:∀ {B M:Mem} {r0 r1 o1 o2 o3:Sl} {ob:Option Nat} {K:Value->Mem->Prop},Dr B im s x M (some (r0,r1)) (some (o1,o2,o3)) none ob->(∀ q1 q2 q3 M',Dr B im s x M' (some (r0,r1)) (some (o1,o2,o3)) (some (q1,q2,q3)) ob->Ext M M'->M.size<=M'.size->K (.tuple #[stV x.s q1 q2 q3,vb x.ok]) M')->q08 Tryz.prog q3i [.agg #[Sl.v r0,Sl.v r1],stV s o1 o2 o3,vi many] M K:=fun h hK =>
  (qmv (h.img _ rfl) (h.st _ rfl) hfit hol many).mono fun _ M' ⟨ro,q1,q2,q3,e,N⟩=>by rw [← hX] at e N; rw [e]; exact hK q1 q2 q3 M' (h.mt N) N.bs.base N.bs.base.size
 have cU:∀ {B M:Mem} {r0 r1 o1 o2 o3:Sl} {ob:Option Nat} {K:Value->Mem->Prop},Dr B im s x M (some (r0,r1)) (some (o1,o2,o3)) none ob->(∀ q1 q2 q3 M',Dr B im s x M' (some (r0,r1)) (some (o1,o2,o3)) (some (q1,q2,q3)) ob->Ext M M'->M.size<=M'.size->K (.tuple #[stV x.s q1 q2 q3,vb x.ok]) M')->q08 Tryz.prog q30 [.agg #[Sl.v r0,Sl.v r1],stV s o1 o2 o3,vi many] M K:=fun h hK =>
  (qdl (h.img _ rfl) (h.st _ rfl) hfit hol many).mono fun _ M' ⟨ro,q1,q2,q3,e,N⟩=>by rw [← hX] at e N; rw [e]; exact hK q1 q2 q3 M' (h.mt N) N.bs.base N.bs.base.size
 refine ⟨DrK m4 x,?_,?_⟩
 ·have hD:Dr m4 im s x m4 none none none none:=⟨Ext.refl _,by simp,by simp,by simp,by simp⟩
  have hB:=x4
  have hz:m4.size<=m4.size:=Nat.le_refl _
  repeat' first
   | exact hD.fin
   | (refine cI hB hD ?_; intro r0 r1 M' hD hX hZ; have hW:=hz; have hz:=Nat.le_trans hz hZ)
   | (refine cS hB hD ?_; intro r0 r1 r2 M' hD hX hZ; have hW:=hz; have hz:=Nat.le_trans hz hZ)
   | (refine cT hD ?_; intro r0 r1 r2 M' hD hX hZ; have hW:=hz; have hz:=Nat.le_trans hz hZ)
   | (intro mm; have hX:Ext _ mm:=(Ext.refl _).pushed _; have hQ:Array.size mm=_+1:=Array.size_push _; have hW:=hz; have hz:=Nat.le_trans hz hX.size; have hD:=hD.mb (M2:=mm) rfl; clear_value mm)
   | (refine And.intro (kp hX (by omega) _) ?_)
   | (refine And.intro (Ext.sam hX fun b hb=>by simp at hb; omega) ?_)
   | (refine ⟨_,_,rfl,?_⟩)
   | (refine ⟨_,_,_,_,_,_,_,rfl,?_⟩)
   | (refine ⟨_,_,_,_,_,_,_,_,rfl,?_⟩)
   | (refine And.intro ?_ ?_)
 rintro ⟨wb,wo⟩ w1 m5 ⟨rfl,rfl,u5,hwb,roW,wq,wh,wf,NW,kw⟩
 simp only [] at hwb kw
 have x5:=x4.trans u5
 have z5:=u5.size
 have lwb:=kw.lt
 refine (q9r (hI x5).decls (hI x5).procs hsI).mono ?_
 rintro _ m6 ⟨r0,r1,rfl,cB,u6⟩
 have z6:=u6.size
 refine ⟨u6.sam (by simp; omega),r0,r1,rfl,?_⟩
 intro m7 m8
 have u8:Ext m6 m8:=((Ext.refl m6).pushed _).scells (Nat.le_refl _) _ _
 have z8:m8.size=m6.size+1:=by simp [m8,m7,q02]
 clear_value m8
 have x8:=(x5.trans u6).trans u8
 refine (q9v (hS x8).out (hS x8).heap (hS x8).frames hsS).mono ?_
 rintro _ m9 ⟨o1,o2,o3,rfl,cS',u9⟩
 have z9:=u9.size
 refine ⟨u9.sam (by simp; omega),_,_,_,_,o1,o2,o3,rfl,?_⟩
 intro m10 m11
 have u11:Ext m9 m11:=((Ext.refl m9).pushed _).scells (Nat.le_refl _) _ _
 have z11:m11.size=m9.size+1:=by simp [m11,m10,q02]
 clear_value m11
 have iB:=cB.read hsI
 have iS:=cS'.read hsS
 have v8_11:=u9.trans u11
 have v6_11:=u8.trans v8_11
 refine (qdl (iB.ext v6_11) (iS.ext u11) hfit hol many).mono ?_
 rintro _ m12 ⟨roG,g1,g2,g3,rfl,N12⟩
 rw [← hX] at N12 ⊢
 have u12:=N12.bs.base
 have z12:=u12.size
 refine ⟨u12.sam (by simp; omega),_,_,_,_,g1,g2,g3,_,rfl,?_⟩
 intro m13 m14
 have u14:Ext m12 m14:=((Ext.refl m12).pushed _).scells (Nat.le_refl _) _ _
 have z14:m14.size=m12.size+1:=by simp [m14,m13,q02]
 clear_value m14
 have v5_14:Ext m5 m14:=(u6.trans v6_11).trans (u12.trans u14)
 have kw14:=kw.ext v5_14
 have gR:=(N12.ext u14).read hsml
 have wR:=(NW.ext v5_14).read hsml
 refine ⟨_,kw14.get 0,_,kw14.get 1,_,kw14.get 2,_,kw14.get 3,wq,kw14.get 4,wh,kw14.get 5,wf,kw14.get 6,(q6c gR.out gR.heap gR.frames wR.out wR.heap wR.frames).mono ?_⟩
 rintro _ m15 ⟨b15,rfl,hb15,u15⟩
 have z15:=u15.size
 refine ⟨u15.sam (by simp; omega),b15,rfl,fun h=>absurd rfl (nb hb15 h),fun _=>⟨fun h=>by simp at h,fun _=>?_⟩⟩
 have x15:=(x5.trans v5_14).trans u15
 refine (q9r (hI x15).decls (hI x15).procs hsI).mono ?_
 rintro _ m16 ⟨c0,c1,rfl,cC,u16⟩
 have z16:=u16.size
 have v6_16:Ext m6 m16:=v6_11.trans ((u12.trans u14).trans (u15.trans u16))
 have iB16:=iB.ext v6_16
 have iC:=cC.read hsI
 refine ⟨u16.sam (by simp; omega),c0,c1,rfl,kp u16 (by omega) _,kp u16 (by omega) _,(qoe iB16.decls iB16.procs iC.decls iC.procs).mono ?_⟩
 rintro _ m17 ⟨b17,rfl,hb17,u17⟩
 have z17:=u17.size
 refine ⟨u17.sam (by simp; omega),b17,rfl,fun h=>absurd rfl (nb hb17 h),fun _=>?_⟩
 have x17:=(x15.trans u16).trans u17
 refine (q9v (hS x17).out (hS x17).heap (hS x17).frames hsS).mono ?_
 rintro _ m18 ⟨d1,d2,d3,rfl,cD,u18⟩
 have z18:=u18.size
 have v9_18:Ext m9 m18:=u11.trans ((u12.trans u14).trans (u15.trans (u16.trans (u17.trans u18))))
 have iS18:=iS.ext v9_18
 have iD:=cD.read hsS
 refine ⟨u18.sam (by simp; omega),_,_,_,_,d1,d2,d3,rfl,kp u18 (by omega) _,kp u18 (by omega) _,kp u18 (by omega) _,kp u18 (by omega) _,kp u18 (by omega) _,kp u18 (by omega) _,kp u18 (by omega) _,(q6c iS18.out iS18.heap iS18.frames iD.out iD.heap iD.frames).mono ?_⟩
 rintro _ m19 ⟨b19,rfl,hb19,u19⟩
 have z19:=u19.size
 refine ⟨u19.sam (by simp; omega),b19,rfl,fun h=>absurd rfl (nb hb19 h),fun _=>?_⟩
 have v9_19:=v9_18.trans u19
 have v6_19:=v6_16.trans ((u17.trans u18).trans u19)
 have v12_19:Ext m12 m19:=u14.trans (u15.trans (u16.trans (u17.trans (u18.trans u19))))
 have v5_19:Ext m5 m19:=u6.trans v6_19
 -- the arguments are marked
 obtain ⟨p0,p1,w0,w1,hpos,hcount,lim0,lim1⟩:=cB.walks hsI
 obtain ⟨q0,q1,q2,wS,hposS,hcountS⟩:=cS'.walks hsS
 have ltS:=wS.lt
 obtain ⟨g0',g1',g2',wG,ndG,hposG,hcountG⟩:=N12.walks hsml
 have ltG:=wG.lt
 refine (qlh (w0.ext v6_19) (w1.ext v6_19) ⟨lim0,lim1⟩ (k:=1) ⟨by decide,by omega⟩).mono ?_
 rintro _ m20 ⟨rfl,k20⟩
 have z20:=k20.size
 have i20:∀ q ∈ p0 ++ p1,∃ n,gcell m19 q.1 q.2=some (vi n):=fun q hq=>by
  rcases List.mem_append.1 hq with hq | hq
  ·exact (w0.ext v6_19).ints q hq
  ·exact (w1.ext v6_19).ints q hq
 have e20:∀ b,b < m19.size->b < m5.size \/ m6.size<=b->m20[b]?=m19[b]?:=fun b h1 h2=>k20.blk b h1 fun q hq e=>by have:=hpos q hq; omega
 refine ⟨fun b hb=>e20 b (by simp at hb; omega) (by simp at hb; omega),_,rfl,?_⟩
 have wS20:=(wS.ext v9_19).mark k20 i20
 refine (qcd (s:=s) wS20 (k:=1+(p0 ++ p1).length) ⟨by omega,by omega⟩).mono ?_
 rintro _ m21 ⟨rfl,k21⟩
 have z21:=k21.size
 have e21:∀ b,b < m20.size->b < m8.size \/ m9.size<=b->m21[b]?=m20[b]?:=fun b h1 h2=>k21.blk b h1 fun q hq e=>by have:=hposS q hq; have:=ltS q hq; omega
 have e1921:∀ b,b < m19.size->b < m5.size \/ m11.size<=b \/ b=m6.size \/ b=m9.size->m21[b]?=m19[b]?:=fun b h1 h2=>by rw [e21 b (by omega) (by omega),e20 b h1 (by omega)]
 refine ⟨fun b hb=>e21 b (by simp at hb; omega) (by simp at hb; omega),_,rfl,fun h=>by simp at h; omega,fun _=>?_⟩
 have x521:Ext m5 m21:=⟨by omega,fun b hb=>by rw [e1921 b (by omega) (Or.inl hb),v5_19.same b hb]⟩
 have x21:=x5.trans x521
 have NG21:SNew m roG m21 g1 g2 g3 x.s:=N12.rebase ((x8.trans v8_11)) (by omega) (fun b h1 h2=>by rw [e1921 b (by omega) (Or.inr (Or.inl h1)),v12_19.same b h2]) x21
 have gR21:=NG21.read hsml
 have wR21:=(NW.ext x521).read hsml
 have kw21:=kw.ext x521
 refine ⟨_,kw21.get 0,_,kw21.get 1,_,kw21.get 2,_,kw21.get 3,wq,kw21.get 4,wh,kw21.get 5,wf,kw21.get 6,(q6c gR21.out gR21.heap gR21.frames wR21.out wR21.heap wR21.frames).mono ?_⟩
 rintro _ m22 ⟨b22,rfl,hb22,u22⟩
 have z22:=u22.size
 refine ⟨u22.sam (by simp; omega),b22,rfl,fun h=>absurd rfl (nb hb22 h),fun _=>⟨fun h=>by simp at h,fun _=>?_⟩⟩
 have wG22:=(((wG.ext v12_19).mark k20 i20).mark k21 wS20.ints).ext u22
 refine (qcd (s:=x.s) wG22 (k:=1) ⟨by decide,by omega⟩).mono ?_
 rintro _ m23 ⟨rfl,k23⟩
 have z23:=k23.size
 have e23:∀ b,b < m22.size->b < m11.size \/ m12.size<=b->m23[b]?=m22[b]?:=fun b h1 h2=>k23.blk b h1 fun q hq e=>by have:=hposG q hq; have:=ltG q hq; omega
 refine ⟨fun b hb=>e23 b (by simp at hb; omega) (by simp at hb; omega),_,rfl,?_⟩
 have x523:Ext m5 m23:=⟨by omega,fun b hb=>by rw [e23 b (by omega) (Or.inl (by omega)),u22.same b (by omega),x521.same b hb]⟩
 have wG23:=wG22.mark k23 wG22.ints
 have mk23:Mkd m23 1 (g0' ++ g1' ++ g2'):=k23.val ndG
 refine (qcc (s:=x.s) wG23 mk23 ⟨by decide,by omega⟩).mono ?_
 rintro _ m24 ⟨rfl,u24⟩
 have z24:=u24.size
 refine ⟨u24.sam (by simp; omega),_,rfl,fun h=>by simp at h; omega,fun _=>⟨fun h=>by simp at h,fun _=>?_⟩⟩
 have x524:=x523.trans u24
 have x24:=x5.trans x524
 refine ⟨DrK m24 x,?_,?_⟩
 ·have hD:Dr m24 im s x m24 none none none none:=⟨Ext.refl _,by simp,by simp,by simp,by simp⟩
  have hB:=x24
  have hz:m24.size<=m24.size:=Nat.le_refl _
  repeat' first
   | exact hD.fin
   | (refine cI hB hD ?_; intro r0 r1 M' hD hX hZ; have hW:=hz; have hz:=Nat.le_trans hz hZ)
   | (refine cS hB hD ?_; intro r0 r1 r2 M' hD hX hZ; have hW:=hz; have hz:=Nat.le_trans hz hZ)
   | (refine cU hD ?_; intro r0 r1 r2 M' hD hX hZ; have hW:=hz; have hz:=Nat.le_trans hz hZ)
   | (intro mm; have hX:Ext _ mm:=(Ext.refl _).pushed _; have hQ:Array.size mm=_+1:=Array.size_push _; have hW:=hz; have hz:=Nat.le_trans hz hX.size; have hD:=hD.mb (M2:=mm) rfl; clear_value mm)
   | (refine And.intro (kp hX (by omega) _) ?_)
   | (refine And.intro (Ext.sam hX fun b hb=>by simp at hb; omega) ?_)
   | (refine ⟨_,_,rfl,?_⟩)
   | (refine ⟨_,_,_,_,_,_,_,rfl,?_⟩)
   | (refine ⟨_,_,_,_,_,_,_,_,rfl,?_⟩)
   | (refine And.intro ?_ ?_)
 rintro ⟨hb,ho⟩ h1 m25 ⟨rfl,rfl,u25,hhb,roH,hq,hh,hf,NH,kh⟩
 simp only [] at hhb kh
 have z25:=u25.size
 have x525:=x524.trans u25
 have kw25:=kw.ext x525
 have hR:=NH.read hsml
 have wR25:=(NW.ext x525).read hsml
 refine ⟨_,kh.get 0,_,kh.get 1,_,kh.get 2,_,kh.get 3,hq,kh.get 4,hh,kh.get 5,hf,kh.get 6,_,kw25.get 0,_,kw25.get 1,_,kw25.get 2,_,kw25.get 3,wq,kw25.get 4,wh,kw25.get 5,wf,kw25.get 6,(q6c hR.out hR.heap hR.frames wR25.out wR25.heap wR25.frames).mono ?_⟩
 rintro _ m26 ⟨b26,rfl,hb26,u26⟩
 have z26:=u26.size
 refine ⟨u26.sam (by simp; omega),b26,rfl,fun h=>absurd rfl (nb hb26 h),fun _=>⟨fun h=>by simp at h,fun _=>?_⟩⟩
 have v23_26:Ext m23 m26:=u24.trans (u25.trans u26)
 refine (qcc (s:=x.s) (wG23.ext v23_26) (mk23.ext v23_26) ⟨by decide,by omega⟩).mono ?_
 rintro _ m27 ⟨rfl,u27⟩
 refine ⟨u27.sam (by simp; omega),_,rfl,fun h=>by simp at h; omega,fun _=>⟨fun h=>by simp at h,fun _=>⟨rfl,(x5.trans x525).trans (u26.trans u27)⟩⟩⟩
end
end Go.Proofs.YtpggcodlaajceaaGreat
section
/- The arguments' readings opened into plain data; a law's row closed. -/
namespace Go.Vc
open Go.ChangeShapes Go.WideShapes Go.RowKit
section
variable {H:Type} {enc:TypeId × Value->H} {P:Program} {w:World}
def Reads (enc:TypeId × Value->H) (P:Program) (w:World) (t:TypeId) (Q:List Ce->Prop):Prop :=
 ∀ (n:Nat) (cs:List Value) (x:DataW H × List MemPlace),DataW.trod enc P w 0 (fun _=>true) true n t cs=some x->∃ cs',cs=cs'.map Ce.v/\Q cs'
theorem Reads.mono {t:TypeId} {Q Q':List Ce->Prop} (h:Reads enc P w t Q) (hQ:∀ cs,Q cs->Q' cs):Reads enc P w t Q':=fun n cs x hx =>
 let ⟨cs',h1,h2⟩:=h n cs x hx
 ⟨cs',h1,hQ _ h2⟩
theorem qqe {t:TypeId} (ht:P.underlying t=some (.int .i64)):Reads enc P w t (fun cs=>∃ k,IntR cs k):=by
 intro n cs x h
 cases n with
 | zero=>simp [DataW.trod] at h
 | succ n =>
  unfold DataW.trod at h
  rw [ht] at h
  split at h <;> simp_all
  rename_i k hk
  subst hk
  exact ⟨[.i k],rfl,k,rfl⟩
theorem qtc {a:Addr} {v:Value} (h:w.cell? a=some v):a.spot=none:=by
 unfold World.cell? at h
 split at h
 ·split at h
  ·cases h
  ·rename_i hs
   simpa using hs
 ·cases h
theorem qt6 {a:Addr} (h:a.spot=none) (i:Nat):a.add i=⟨a.block,a.off+i,none⟩:=by
 obtain ⟨b,o,s⟩:=a
 simp only at h
 subst h
 unfold Addr.add
 by_cases hi:i=0
 ·subst hi; simp
 ·simp [hi]
theorem qsb {α:Type} {t e:TypeId} {sz:Nat} {R:List Ce->α->Prop} (ht:P.underlying t=some (.slice e)) (hc:P.cellsOf e=sz) (hz:0 < sz)
  (hE:Reads enc P w e (fun cs=>∃ a,R cs a)):Reads enc P w t (fun cs=>∃ s l,cs=[.s s]/\SlOf w.heap sz R s l):=by
 intro n cs x h
 rcases Go.Deep.open_slice ht h with ⟨rfl,_⟩ | ⟨a,len,cap,m,n,D,Pl,rfl,_,hl,hm,hmm,_,hx⟩
 ·exact ⟨[.s .nil],rfl,.nil,[],rfl,⟨rfl,Nat.le_refl _,by simp,fun k x hk=>by simp at hk⟩⟩
 simp only [if_true] at hmm
 subst hmm
 rw [hc] at hx
 by_cases h0:m=0
 ·subst h0
  have:len=0:=by omega
  subst this
  obtain ⟨b,o,s⟩:=a
  cases s with
  | none=>exact ⟨[.s (.mk b o 0 0)],rfl,.mk b o 0 0,[],rfl,⟨rfl,Nat.le_refl _,by simp,fun k x hk=>by simp at hk⟩⟩
  | some sp=>exact ⟨[.s (.emp b o sp)],rfl,.emp b o sp,[],rfl,⟨rfl,Nat.le_refl _,by simp,fun k x hk=>by simp at hk⟩⟩
 have hsp:a.spot=none:=by
  obtain ⟨cs',h1,_⟩:=hx 0 (by omega)
  obtain ⟨_,hlen,hcell⟩:=World.cells?_some h1
  have:=hcell 0 hz
  cases cs' with
  | nil=>simp at hlen; omega
  | cons c r =>
   have hs:=qtc (by rw [this]; rfl)
   rw [Go.Deep.add_add] at hs
   simpa [Addr.add] using hs
 have one:∀ i,i < m->∃ cs' v,R cs' v/\rowIs w.heap a.block (a.off+i*sz) cs':=fun i hi=>by
  obtain ⟨cv,h1,h2⟩:=hx i hi
  obtain ⟨cs',rfl,v,hv⟩:=hE _ _ _ h2
  refine ⟨cs',v,hv,fun j c hj=>?_⟩
  obtain ⟨_,hlen,hcell⟩:=World.cells?_some h1
  have hj':j < sz:=by rw [← hlen]; simpa using q04 hj
  have:=hcell j hj'
  rw [Go.Deep.add_add,qt6 hsp,cell?_eq] at this
  rw [Nat.add_assoc,this]
  simp [hj]
 have two:∀ i,∃ v,i < m->∃ cs',R cs' v/\rowIs w.heap a.block (a.off+i*sz) cs':=fun i=>by
  by_cases hi:i < m
  ·obtain ⟨cs',v,h1,h2⟩:=one i hi
   exact ⟨v,fun _=>⟨cs',h1,h2⟩⟩
  ·obtain ⟨cs',v,_,_⟩:=one 0 (by omega)
   exact ⟨v,fun h=>absurd h hi⟩
 obtain ⟨f,hf⟩:=Classical.axiomOfChoice two
 have hml:m<=9223372036854775807:=Nat.le_trans hm (by decide)
 refine ⟨[.s (.mk a.block a.off len m)],?_,.mk a.block a.off len m,(List.range len).map f,rfl,⟨by simp,hl,by simp; omega,fun k x hk=>?_⟩⟩
 ·obtain ⟨b,o,s⟩:=a
  simp only at hsp
  subst hsp
  rfl
 ·have hk':k < len:=by simpa using q04 hk
  rw [List.getElem?_map,List.getElem?_range hk'] at hk
  simp at hk
  subst hk
  exact hf k (by omega)
def Fields1 (P:Program):Nat->List Field->Prop
 | _,[]=>True
 | i,f :: fs=>f.offset=i/\P.cellsOf f.type=1/\Fields1 P (i+1) fs
def ReadsAll (enc:TypeId × Value->H) (P:Program) (w:World):List Field->(List Ce->Prop)->Prop
 | [],Q=>Q []
 | f :: fs,Q=>∃ q:Ce->Prop,Reads enc P w f.type (fun cs=>∃ c,cs=[c]/\q c)/\∀ c,q c->ReadsAll enc P w fs (fun cs=>Q (c :: cs))
theorem qlx {n:Nat}:∀ (fs:List Field) (i:Nat) (all cs:List Value) (Q:List Ce->Prop),Fields1 P i fs->all.drop i=cs->cs.length=fs.length ->
  (∀ f ∈ fs,∃ x,DataW.trod enc P w 0 (fun _=>true) true n f.type ((all.drop f.offset).take (P.cellsOf f.type))=some x)->ReadsAll enc P w fs Q->∃ cs',cs=cs'.map Ce.v/\Q cs'
 | [],i,all,cs,Q,_,_,hl,_,hQ=>by
  cases cs with
  | nil=>exact ⟨[],rfl,hQ⟩
  | cons c r=>simp at hl
 | f :: fs,i,all,cs,Q,hF,hd,hl,hr,⟨q,h1,h2⟩=>by
  cases cs with
  | nil=>simp at hl
  | cons c r =>
   obtain ⟨hi,hc,hF'⟩:=hF
   obtain ⟨x,hx⟩:=hr f (by simp)
   rw [hc,hi,hd] at hx
   simp only [List.take_succ_cons,List.take_zero] at hx
   obtain ⟨cs',e,c',rfl,hq⟩:=h1 _ _ _ hx
   obtain ⟨cs2,e2,hQ⟩:=qlx fs (i+1) all r _ hF' (by rw [← List.drop_drop,hd]; simp) (by simpa using hl) (fun g hg=>hr g (by simp [hg])) (h2 c' hq)
   refine ⟨c' :: cs2,?_,hQ⟩
   simp at e
   simp [e,← e2]
theorem qqz {t:TypeId} {fs:Array Field} {Q:List Ce->Prop} (ht:P.underlying t=some (.struct fs)) (hc:P.cellsOf t=fs.size) (h1:Fields1 P 0 fs.toList) (h2:ReadsAll enc P w fs.toList Q):Reads enc P w t Q:=by
 intro n cs x h
 obtain ⟨xs,k,_,_,hl,hxl,hf⟩:=DataW.trod_struct ht h
 refine qlx (n:=k) fs.toList 0 cs cs Q h1 rfl (by rw [hl,hc]; simp) (fun f hf'=>?_) h2
 obtain ⟨i,hi⟩:=List.mem_iff_getElem?.1 hf'
 have hi':fs[i]?=some f:=by simpa using hi
 have:=hf i f hi'
 rw [this]
 have hlt:i < xs.length:=by rw [hxl]; exact (Array.getElem?_eq_some_iff.1 hi').1
 exact ⟨xs[i],by simp [hlt]⟩
def structIs (P:Program) (t:TypeId) (ts:List TypeId):Bool :=
 match P.underlying t with
 | some (.struct fs)=>decide (fs.toList.map (fun f=>(f.type,f.offset))=ts.zip (List.range ts.length)) && decide (fs.size=ts.length) && (ts.all fun t=>decide (P.cellsOf t=1)) && decide (P.cellsOf t=ts.length)
 | _=>false
def ReadsTs (enc:TypeId × Value->H) (P:Program) (w:World):List TypeId->(List Ce->Prop)->Prop
 | [],Q=>Q []
 | t :: ts,Q=>∃ q:Ce->Prop,Reads enc P w t (fun cs=>∃ c,cs=[c]/\q c)/\∀ c,q c->ReadsTs enc P w ts (fun cs=>Q (c :: cs))
theorem qm8:∀ (fs:List Field) (Q:List Ce->Prop),ReadsTs enc P w (fs.map (·.type)) Q->ReadsAll enc P w fs Q
 | [],_,h=>h
 | _ :: fs,_,⟨q,h1,h2⟩=>⟨q,h1,fun c hc=>qm8 fs _ (h2 c hc)⟩
theorem qon:∀ (fs:List Field) (ts:List TypeId) (i:Nat),fs.map (fun f=>(f.type,f.offset))=ts.zip (List.range' i ts.length)->(∀ t ∈ ts,P.cellsOf t=1)->fs.length=ts.length->Fields1 P i fs/\fs.map (·.type)=ts
 | [],[],_,_,_,_=>⟨trivial,rfl⟩
 | [],_ :: _,_,_,_,h=>by simp at h
 | _ :: _,[],_,_,_,h=>by simp at h
 | f :: fs,t :: ts,i,h,hc,hl=>by
  simp only [List.map_cons,List.length_cons,List.range'_succ,List.zip_cons_cons,List.cons.injEq,Prod.mk.injEq] at h
  obtain ⟨⟨h1,h2⟩,h3⟩:=h
  obtain ⟨k1,k2⟩:=qon fs ts (i+1) h3 (fun u hu=>hc u (by simp [hu])) (by simpa using hl)
  exact ⟨⟨h2,by rw [h1]; exact hc t (by simp),k1⟩,by simp [h1,k2]⟩
theorem q3o {t:TypeId} {ts:List TypeId} {Q:List Ce->Prop} (ht:structIs P t ts=true) (h:ReadsTs enc P w ts Q):Reads enc P w t Q:=by
 unfold structIs at ht
 split at ht
 ·rename_i fs hu
  simp only [Bool.and_eq_true,decide_eq_true_eq,List.all_eq_true] at ht
  obtain ⟨⟨⟨h1,h2⟩,h3⟩,h4⟩:=ht
  rw [List.range_eq_range'] at h1
  obtain ⟨k1,k2⟩:=qon (P:=P) fs.toList ts 0 h1 h3 (by simpa using h2)
  exact qqz hu (by rw [h4,h2]) k1 (qm8 _ _ (by rw [k2]; exact h))
 ·cases ht
theorem qpr {t:TypeId} {ts:List TypeId} {Q:List Ce->Prop} {b:Nat} {v:Value} {d:DataW H} {p:List MemPlace} (ht:structIs P t ts=true) (hv:Value.okWide P w .any b t v) (hr:Reads enc P w t Q)
  (h:DataW.Trod enc P w 0 (fun _=>true) true t v d p):∃ cs,v=.agg (cs.map Ce.v).toArray/\Q cs:=by
 unfold structIs at ht
 split at ht
 ·rename_i fs hu
  unfold Value.okWide at hv
  rw [hu] at hv
  obtain ⟨cs,rfl,_,_⟩:=hv
  obtain ⟨n,hn⟩:=h
  obtain ⟨cs',e,hQ⟩:=hr _ _ _ hn
  refine ⟨cs',?_,hQ⟩
  simp only [Value.cells] at e
  rw [← e]
 ·cases ht
theorem qr4 {t:TypeId} {b:Nat} {v:Value} {d:DataW H} {p:List MemPlace} (ht:P.underlying t=some (.int .i64)) (hv:Value.okWide P w .any b t v)
  (h:DataW.Trod enc P w 0 (fun _=>true) true t v d p):∃ k,v=vi k:=by
 obtain ⟨a,rfl,_⟩:=open_int ht hv h
 exact ⟨a,rfl⟩
theorem qso {t:TypeId} (ht:P.underlying t=some (.int .i64)):Reads enc P w t (fun cs=>∃ c,cs=[c]/\∃ k,c=.i k) :=
 (qqe ht).mono fun _ ⟨k,h⟩=>⟨.i k,h,k,rfl⟩
theorem q42 {α:Type} {t e:TypeId} {sz:Nat} {R:List Ce->α->Prop} (ht:P.underlying t=some (.slice e)) (hc:P.cellsOf e=sz) (hz:0 < sz)
  (hE:Reads enc P w e (fun cs=>∃ a,R cs a)):Reads enc P w t (fun cs=>∃ c,cs=[c]/\∃ s l,c=.s s/\SlOf w.heap sz R s l) :=
 (qsb ht hc hz hE).mono fun _ ⟨s,l,h1,h2⟩=>⟨.s s,h1,s,l,rfl,h2⟩
end
section
variable {H:Type} {enc:TypeId × Value->H} {P:Program}
theorem qhe (hl:laidOutB P=true) {W W':World} (hb:Below W.heap.size W W'):∀ {ts:List TypeId} {vs:List Value} {ds:List (DataW H)} {ps:List MemPlace},
  (ts.all fun t=>P.readableRec t && decide (t < P.types.size))=true->DataW.TrodAll enc P W 0 (fun _=>true) true ts vs ds ps->(∀ x ∈ ps,x.block < W.heap.size)->∀ sp:Nat->Bool,(∀ p ∈ ps,sp p.block=true) ->
  DataW.TrodAll enc P W' 0 sp true ts vs ds ps
 | [],_,_,_,_,h,_,_,_=>by
  obtain ⟨rfl,rfl,rfl⟩:=trodAll_nil h
  exact trodAll_mk0
 | t :: ts,_,_,_,ht,h,hlt,sp,hsp=>by
  obtain ⟨v,vs,d,ds,p,q,rfl,rfl,rfl,h1,h2⟩:=trodAll_cons h
  simp only [List.all_cons,Bool.and_eq_true,decide_eq_true_eq] at ht
  exact ⟨p,q,WideElems.Trod_stays hl ht.1.1 ht.1.2 h1 (fun x hx=>hb.same (hlt x (by simp [hx]))) (fun x hx=>hsp x (by simp [hx])),qhe hl hb (by simpa using ht.2) h2 (fun x hx=>hlt x (by simp [hx])) sp (fun x hx=>hsp x (by simp [hx])),rfl⟩
theorem qqs {f:Func} {s:ChangeSpec} {W W':World} {args:Array Value} {ds:List (DataW H)} {before:List MemPlace} {t:TypeId}
  (hl:laidOutB P=true) (hts:(f.params.toList.all fun t=>P.readableRec t && decide (t < P.types.size))=true) (hrt:f.resultTypes=#[t]) (hbool:P.underlying t=some .bool) (hvs:s.vars=[])
  (hW:DataW.Whole enc P f.params.toList s.vars false W args.toList ds [] before) (hfa:(s.fn H (ds ++ [])).args=ds) (hfr:(s.fn H (ds ++ [])).results=[.lit (.bool true)]) (hfv:(s.fn H (ds ++ [])).vars=[])
  (hb:Below W.heap.size W W'):s.post enc P f false true false false W args (.bool true) W':=by
 have hlt:∀ p ∈ before,p.block < W.heap.size:=fun p hp=>by simpa using hW.lt p hp
 have hW2:=hW
 obtain ⟨p,q,hA,hV,rfl,hz,hn⟩:=hW
 rw [hvs] at hV
 obtain ⟨_,rfl⟩:=trodVars_none hV
 simp only [List.append_nil] at hlt hz hW2
 have hargs:∀ sp:Nat->Bool,(∀ x ∈ p,sp x.block=true)->DataW.TrodAll enc P W' 0 sp true f.params.toList args.toList (s.fn H (ds ++ [])).args p:=fun sp hsp=>by
  rw [hfa]; exact qhe hl hb hts hA hlt sp hsp
 have hvars:∀ sp:Nat->Bool,DataW.TrodVars enc P W' sp s.vars (s.fn H (ds ++ [])).vars []:=fun sp=>by rw [hvs,hfv]; rfl
 have hres:∀ (b:Nat) (sp:Nat->Bool) (hd:Bool),DataW.TrodAll enc P W' b sp hd f.resultTypes.toList ((Value.bool true).resultList f.resultTypes.size) (s.fn H (ds ++ [])).results []:=fun b sp hd=>by
  rw [hfr,hrt]
  exact trodAll_cons_mk (shut_bool hbool _) trodAll_mk0
 refine ⟨ds,[],p,[],p,[],hW2,hres _ _ _,hargs _ (fun x hx=>by simpa using hlt x hx),hvars _,hb.frame _,fun _=>?_⟩
 refine ⟨ok_one hrt rfl (okWide_bool_mk hbool _),_,_,([] ++ p) ++ [],⟨[] ++ p,[],trodAll_append (hargs _ (fun _ _=>rfl)) (hres _ _ _),hvars _,rfl,?_,fun h=>by cases h⟩,?_⟩
 ·intro b off hp
  have hp':MemPlace.cell b off ∈ p:=by simpa using hp
  rw [hb.frozen (p:=⟨b,off,none⟩) (hlt _ hp')]
  exact hz b off hp'
 ·intro x hx _
  simpa using hx
end
end Go.Vc
end
namespace Go.Proofs.YtpggcodlaajceaaGreat
open Go.Vc
section
set_option maxRecDepth 100000
section
variable {H:Type} {enc:TypeId × Value->H} {w:World}
theorem qsg:Tryz.prog.underlying 3=some (.int .i64):=by kernel_rfl
theorem rd_int:Reads enc Tryz.prog w 3 (fun cs=>∃ k,IntR cs k):=qqe (by kernel_rfl)
theorem q3l:Reads enc Tryz.prog w 3 (fun cs=>∃ c,cs=[c]/\∃ k,c=.i k):=qso (by kernel_rfl)
theorem qco:Reads enc Tryz.prog w 27 (fun cs=>∃ c,cs=[c]/\∃ s l,c=.s s/\q03 w.heap s l):=q42 (by kernel_rfl) (by kernel_rfl) (by decide) rd_int
theorem st_Con:structIs Tryz.prog 222 [27]=true:=by kernel_rfl
theorem rd_Con:Reads enc Tryz.prog w 222 (fun cs=>∃ a,ConR w.heap cs a):=by
 refine q3o st_Con ?_
 refine ⟨_,qco,?_⟩
 rintro _ ⟨x0,l0,rfl,h0⟩
 exact ⟨l0,x0,rfl,h0⟩
theorem qu9:Reads enc Tryz.prog w 107 (fun cs=>∃ c,cs=[c]/\∃ s l,c=.s s/\SlOf w.heap 1 (ConR w.heap) s l):=q42 (by kernel_rfl) (by kernel_rfl) (by decide) rd_Con
theorem qub:structIs Tryz.prog 109 [3,3,107]=true:=by kernel_rfl
theorem qu7:Reads enc Tryz.prog w 109 (fun cs=>∃ a,DeclR w.heap cs a):=by
 refine q3o qub ?_
 refine ⟨_,q3l,?_⟩
 rintro _ ⟨x0,rfl⟩
 refine ⟨_,q3l,?_⟩
 rintro _ ⟨x1,rfl⟩
 refine ⟨_,qu9,?_⟩
 rintro _ ⟨x2,l2,rfl,h2⟩
 exact ⟨⟨x0,x1,l2⟩,x2,rfl,h2⟩
theorem qtr:Reads enc Tryz.prog w 22 (fun cs=>∃ c,cs=[c]/\∃ s l,c=.s s/\SlOf w.heap 3 (DeclR w.heap) s l):=q42 (by kernel_rfl) (by kernel_rfl) (by decide) qu7
theorem qtq:structIs Tryz.prog 224 [3,3,3,3,27,27]=true:=by kernel_rfl
theorem qtu:Reads enc Tryz.prog w 224 (fun cs=>∃ a,InstrR w.heap cs a):=by
 refine q3o qtq ?_
 refine ⟨_,q3l,?_⟩
 rintro _ ⟨x0,rfl⟩
 refine ⟨_,q3l,?_⟩
 rintro _ ⟨x1,rfl⟩
 refine ⟨_,q3l,?_⟩
 rintro _ ⟨x2,rfl⟩
 refine ⟨_,q3l,?_⟩
 rintro _ ⟨x3,rfl⟩
 refine ⟨_,qco,?_⟩
 rintro _ ⟨x4,l4,rfl,h4⟩
 refine ⟨_,qco,?_⟩
 rintro _ ⟨x5,l5,rfl,h5⟩
 exact ⟨⟨x0,x1,x2,x3,l4,l5⟩,x4,x5,rfl,h4,h5⟩
theorem qt8:Reads enc Tryz.prog w 111 (fun cs=>∃ c,cs=[c]/\∃ s l,c=.s s/\SlOf w.heap 6 (InstrR w.heap) s l):=q42 (by kernel_rfl) (by kernel_rfl) (by decide) qtu
theorem quc:structIs Tryz.prog 113 [27,27,3,3,111]=true:=by kernel_rfl
theorem qud:Reads enc Tryz.prog w 113 (fun cs=>∃ a,ProcR w.heap cs a):=by
 refine q3o quc ?_
 refine ⟨_,qco,?_⟩
 rintro _ ⟨x0,l0,rfl,h0⟩
 refine ⟨_,qco,?_⟩
 rintro _ ⟨x1,l1,rfl,h1⟩
 refine ⟨_,q3l,?_⟩
 rintro _ ⟨x2,rfl⟩
 refine ⟨_,q3l,?_⟩
 rintro _ ⟨x3,rfl⟩
 refine ⟨_,qt8,?_⟩
 rintro _ ⟨x4,l4,rfl,h4⟩
 exact ⟨⟨l0,l1,x2,x3,l4⟩,x0,x1,x4,rfl,h0,h1,h4⟩
theorem qty:Reads enc Tryz.prog w 23 (fun cs=>∃ c,cs=[c]/\∃ s l,c=.s s/\SlOf w.heap 5 (ProcR w.heap) s l):=q42 (by kernel_rfl) (by kernel_rfl) (by decide) qud
theorem qug:structIs Tryz.prog 151 [3,3,27]=true:=by kernel_rfl
theorem qtp:structIs Tryz.prog 153 [3,3,3,27,27,27]=true:=by kernel_rfl
theorem qr0:structIs Tryz.prog 25 [22,23]=true:=by kernel_rfl
theorem qu3:Reads enc Tryz.prog w 25 (fun cs=>∃ d p im,cs=[.s d,.s p]/\ImageR w.heap d p im):=by
 refine q3o qr0 ?_
 refine ⟨_,qtr,?_⟩
 rintro _ ⟨x0,l0,rfl,h0⟩
 refine ⟨_,qty,?_⟩
 rintro _ ⟨x1,l1,rfl,h1⟩
 exact ⟨x0,x1,⟨l0,l1⟩,rfl,h0,h1⟩
theorem qtw {b:Nat} {v:Value} {d:DataW H} {ps:List MemPlace} (hv:Value.okWide Tryz.prog w .any b 25 v) (h:DataW.Trod enc Tryz.prog w 0 (fun _=>true) true 25 v d ps) :
  ∃ q p im,v=.agg #[Sl.v q,Sl.v p]/\ImageR w.heap q p im:=by
 obtain ⟨cs,rfl,q,p,im,rfl,hi⟩:=qpr (P:=Tryz.prog) (w:=w) (enc:=enc) (b:=b) (v:=v) (d:=d) (p:=ps) qr0 hv qu3 h
 exact ⟨q,p,im,rfl,hi⟩
theorem op_int {b:Nat} {v:Value} {d:DataW H} {ps:List MemPlace} (hv:Value.okWide Tryz.prog w .any b 3 v) (h:DataW.Trod enc Tryz.prog w 0 (fun _=>true) true 3 v d ps):∃ k,v=vi k :=
 qr4 (P:=Tryz.prog) (w:=w) (enc:=enc) (b:=b) (v:=v) (d:=d) (p:=ps) (t:=3) qsg hv h
end
end
section
set_option maxRecDepth 100000
section
variable {H:Type} {enc:TypeId × Value->H} {w:World}
def IntW (cs:List Ce) (k:Int):Prop:=IntR cs k/\In64 k
theorem qsd:Reads enc Tryz.prog w 3 (fun cs=>∃ k,IntW cs k):=by
 intro n cs x h
 cases n with
 | zero=>simp [DataW.trod] at h
 | succ n =>
  unfold DataW.trod at h
  rw [qsg] at h
  split at h <;> simp_all
  rename_i k hk
  subst hk
  obtain ⟨⟨rfl,h1⟩,_⟩:=h
  refine ⟨[.i k],rfl,k,rfl,?_⟩
  simp only [Lit.wf,Bool.and_eq_true,decide_eq_true_eq] at h1
  exact ⟨h1.1,h1.2⟩
theorem qu0:Reads enc Tryz.prog w 3 (fun cs=>∃ c,cs=[c]/\∃ k,c=.i k/\In64 k):=qsd.mono fun _ ⟨k,h,h2⟩=>⟨.i k,h,k,rfl,h2⟩
theorem qfy:Reads enc Tryz.prog w 27 (fun cs=>∃ c,cs=[c]/\∃ s l,c=.s s/\q03 w.heap s l/\∀ x ∈ l,In64 x) :=
 (q42 (R:=IntW) (by kernel_rfl) (by kernel_rfl) (by decide) qsd).mono fun _ ⟨c,e,s,l,e2,h⟩=>⟨c,e,s,l,e2,h.mono (Ext.refl _) fun _ _ h=>h.1,fun x hx=>by
  obtain ⟨k,hk⟩:=List.mem_iff_getElem?.1 hx
  obtain ⟨cs,h1,_⟩:=h.row k x hk
  exact h1.2⟩
def CellW (m:Mem) (cs:List Ce) (c:Cell):Prop:=CellR m cs c/\∀ x ∈ c.fields,In64 x
theorem qtk:Reads enc Tryz.prog w 151 (fun cs=>∃ a,CellW w.heap cs a):=by
 refine q3o qug ?_
 refine ⟨_,q3l,?_⟩
 rintro _ ⟨x0,rfl⟩
 refine ⟨_,q3l,?_⟩
 rintro _ ⟨x1,rfl⟩
 refine ⟨_,qfy,?_⟩
 rintro _ ⟨x2,l2,rfl,h2,f2⟩
 exact ⟨⟨x0,x1,l2⟩,⟨x2,rfl,h2⟩,f2⟩
theorem qt5:Reads enc Tryz.prog w 47 (fun cs=>∃ c,cs=[c]/\∃ s l,c=.s s/\q0h w.heap s l/\FitH l) :=
 (q42 (R:=CellW w.heap) (by kernel_rfl) (by kernel_rfl) (by decide) qtk).mono fun _ ⟨c,e,s,l,e2,h⟩=>⟨c,e,s,l,e2,h.mono (Ext.refl _) fun _ _ h=>h.1,fun x hx=>by
  obtain ⟨k,hk⟩:=List.mem_iff_getElem?.1 hx
  obtain ⟨cs,h1,_⟩:=h.row k x hk
  exact h1.2⟩
def FrameW (m:Mem) (cs:List Ce) (f:Frame):Prop:=FrameR m cs f/\FitF f
theorem qti:Reads enc Tryz.prog w 153 (fun cs=>∃ a,FrameW w.heap cs a):=by
 refine q3o qtp ?_
 refine ⟨_,q3l,?_⟩
 rintro _ ⟨x0,rfl⟩
 refine ⟨_,q3l,?_⟩
 rintro _ ⟨x1,rfl⟩
 refine ⟨_,q3l,?_⟩
 rintro _ ⟨x2,rfl⟩
 refine ⟨_,qfy,?_⟩
 rintro _ ⟨x3,l3,rfl,h3,f3⟩
 refine ⟨_,qfy,?_⟩
 rintro _ ⟨x4,l4,rfl,h4,f4⟩
 refine ⟨_,qfy,?_⟩
 rintro _ ⟨x5,l5,rfl,h5,f5⟩
 exact ⟨⟨x0,x1,x2,l3,l4,l5⟩,⟨x3,x4,x5,rfl,h3,h4,h5⟩,f3,f4,f5⟩
theorem qsz:Reads enc Tryz.prog w 48 (fun cs=>∃ c,cs=[c]/\∃ s l,c=.s s/\FrameSl w.heap s l/\∀ f ∈ l,FitF f) :=
 (q42 (R:=FrameW w.heap) (by kernel_rfl) (by kernel_rfl) (by decide) qti).mono fun _ ⟨c,e,s,l,e2,h⟩=>⟨c,e,s,l,e2,h.mono (Ext.refl _) fun _ _ h=>h.1,fun x hx=>by
  obtain ⟨k,hk⟩:=List.mem_iff_getElem?.1 hx
  obtain ⟨cs,h1,_⟩:=h.row k x hk
  exact h1.2⟩
theorem qrf:structIs Tryz.prog 50 [3,3,3,3,27,47,48]=true:=by kernel_rfl
theorem qu4:Reads enc Tryz.prog w 50 (fun cs=>∃ s o h f,cs=stL s o h f/\StR w.heap o h f s/\Fit64 s):=by
 refine q3o qrf ?_
 refine ⟨_,q3l,?_⟩
 rintro _ ⟨x0,rfl⟩
 refine ⟨_,q3l,?_⟩
 rintro _ ⟨x1,rfl⟩
 refine ⟨_,qu0,?_⟩
 rintro _ ⟨x2,rfl,f2⟩
 refine ⟨_,q3l,?_⟩
 rintro _ ⟨x3,rfl⟩
 refine ⟨_,qco,?_⟩
 rintro _ ⟨x4,l4,rfl,h4⟩
 refine ⟨_,qt5,?_⟩
 rintro _ ⟨x5,l5,rfl,h5,f5⟩
 refine ⟨_,qsz,?_⟩
 rintro _ ⟨x6,l6,rfl,h6,f6⟩
 exact ⟨⟨x0,x1,x2,x3,l4,l5,l6⟩,x4,x5,x6,rfl,⟨h4,h5,h6⟩,⟨f2,f5,f6⟩⟩
theorem qtx {b:Nat} {v:Value} {d:DataW H} {ps:List MemPlace} (hv:Value.okWide Tryz.prog w .any b 50 v) (h:DataW.Trod enc Tryz.prog w 0 (fun _=>true) true 50 v d ps) :
  ∃ s o h f,v=stV s o h f/\StR w.heap o h f s/\Fit64 s:=by
 obtain ⟨cs,rfl,s,o,hh,f,rfl,h1,h2⟩:=qpr (P:=Tryz.prog) (w:=w) (enc:=enc) (b:=b) (v:=v) (d:=d) (p:=ps) qrf hv qu4 h
 exact ⟨s,o,hh,f,rfl,h1,h2⟩
end
end
end Go.Proofs.YtpggcodlaajceaaGreat
