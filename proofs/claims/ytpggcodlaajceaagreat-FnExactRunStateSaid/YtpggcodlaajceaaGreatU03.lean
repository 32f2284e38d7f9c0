/- Part of a proof, joined by a program: Cn11 Cn12 Cn13 Cn14 Cn15 Cn16 Cn17. -/
import Derived.Test.YtpggcodlaajceaaGreatU01
set_option linter.unusedVariables false
set_option linter.unusedSimpArgs false
namespace Go.Proofs.YtpggcodlaajceaaGreat
open Go.Vc
section
set_option linter.unusedVariables false
set_option maxRecDepth 100000
variable {m:Mem} {R:Value->Mem->Prop}
theorem qfl (a b:Nat × Nat) (c d e f:Int) (g h:Sl) (h' :
 let i:=m.push (.cells (vals [.i c,.i d,.i e,.i f,.s g,.s h]) 86)
 eT m.size (cV q3p [vp a.1 a.2,.agg #[vi c,vi d,vi e,vi f,Sl.v g,Sl.v h]] i fun j k=>
 Sam [m.size] i k /\
 ∃ l:Sl,∃ n:Sl,j=.tuple #[Sl.v l,Sl.v n] /\
 ∃ (o:Int->Mem->Prop) (p:Int->Mem->Nat),
 o 0 k /\
 (∀ q s,o q s ->
 iP (decide (q < l.len)) (rg q l (rI s l.blk (l.off+q.toNat*1) fun t=>
 rS s b.1 (b.2+3) fun u=>
 rg t u (rI s u.blk (u.off+t.toNat*1) fun v=>
 iP (decide (v ≥ 1000)) (rS s b.1 (b.2+4) fun x=>
 rg t x (rI s x.blk (x.off+t.toNat*1) fun y=>
 rg t x (wrOk s x.blk (x.off+t.toNat*1) 1 /\
 let z:=scells s x.blk (x.off+t.toNat*1) [.i (w64 (y - 1))]
 Sam [m.size] s z /\
 eS m.size 86 [.i c,.i d,.i e,.i f,.s g,.s h] (o (w64 (q+1)) z/\p (w64 (q+1)) z < p q s)))) (eS m.size 86 [.i c,.i d,.i e,.i f,.s g,.s h] (o (w64 (q+1)) s/\p (w64 (q+1)) s < p q s))))) (rI s b.1 (b.2+1) fun t=>
 wrOk s b.1 (b.2+1) 1 /\
 let u:=scells s b.1 (b.2+1) [.i (w64 (t+1))]
 Sam [m.size] s u /\
 eT m.size (iP ((c == 0) || ((c == 1) || ((c == 2) || ((c == 3) || ((c == 4) || (c == 5)))))) (eT m.size (cV q59 [vp a.1 a.2,vp b.1 b.2,.agg #[vi c,vi d,vi e,vi f,Sl.v g,Sl.v h]] u fun v x=>
 Sam [m.size] u x /\
 R (.tuple #[]) x)) (iP (c == 6) (eT m.size (eT m.size (cI q4l [vp a.1 a.2,vp b.1 b.2,.agg #[vi c,vi d,vi e,vi f,Sl.v g,Sl.v h]] [m.size] u fun v x=>
 gk x u m.size 1 /\
 cV q1m [vp b.1 b.2,vi d,vi v,vi 1] x fun y z=>
 Sam [m.size] x z /\
 R (.tuple #[]) z))) (iP (c == 10) (eT m.size (rI u a.1 (a.2+2) fun v=>
 eT m.size (eT m.size (cS q2q [vp b.1 b.2,Sl.v g] [m.size] u fun x y=>
 gk y u m.size 2 /\
 gk y u a.1 (a.2+2) /\
 gk y u m.size 1 /\
 cI q2u [vp a.1 a.2,vi (w64 (v+e)),Sl.v x] [m.size] y fun z A=>
 gk A y m.size 1 /\
 cV q1m [vp b.1 b.2,vi d,vi z,vi 1] A fun B C=>
 Sam [m.size] A C /\
 R (.tuple #[]) C)))) (iP (c == 14) (rS u a.1 (a.2+3+5) fun v=>
 rS u b.1 (b.2+3) fun x=>
 eT m.size (rg 0 g (rI u g.blk (g.off+Int.toNat 0*1) fun y=>
 rg y x (rI u x.blk (x.off+y.toNat*1) fun z=>
 rg (w64 (z - 1000)) v (rI u v.blk (v.off+Int.toNat (w64 (z - 1000))*3) fun A=>
 rg (w64 (z - 1000)) v (wrOk u v.blk (v.off+Int.toNat (w64 (z - 1000))*3) 1 /\
 let B:=scells u v.blk (v.off+Int.toNat (w64 (z - 1000))*3) [.i (w64 (A+1))]
 Sam [m.size] u B /\
 rS B b.1 (b.2+4) fun C=>
 eT m.size (rg 0 g (rI B g.blk (g.off+Int.toNat 0*1) fun D=>
 rg D C (rI B C.blk (C.off+D.toNat*1) fun E=>
 rg D C (wrOk B C.blk (C.off+D.toNat*1) 1 /\
 let F:=scells B C.blk (C.off+D.toNat*1) [.i (w64 (E+1))]
 Sam [m.size] B F /\
 R (.tuple #[]) F)))))))))) (iP (c == 15) (rS u a.1 (a.2+3+5) fun v=>
 let x:=u.push (.cells (vals [.s Sl.nil]) 193)
 eT u.size (let y:=scells x u.size 0 [.s v]
 rS y b.1 (b.2+3) fun z=>
 eT m.size (rg 0 g (rI y g.blk (g.off+Int.toNat 0*1) fun A=>
 rg A z (rI y z.blk (z.off+A.toNat*1) fun B=>
 cV q8t [vp u.size 0,vi B] y fun C D=>
 Sam [m.size] y D /\
 rS D u.size 0 fun E=>
 wrOk D a.1 (a.2+3+5) 1 /\
 let F:=scells D a.1 (a.2+3+5) [.s E]
 Sam [m.size] D F /\
 R (.tuple #[]) F))))) (iP ((c == 16) || (c == 17)) (eT m.size (cV q68 [vp a.1 a.2,vp b.1 b.2,.agg #[vi c,vi d,vi e,vi f,Sl.v g,Sl.v h]] u fun v x=>
 Sam [m.size] u x /\
 R (.tuple #[]) x)) (iP (c == 18) (rS u b.1 (b.2+3) fun v=>
 eT m.size (rg 0 g (rI u g.blk (g.off+Int.toNat 0*1) fun x=>
 rg x v (rI u v.blk (v.off+x.toNat*1) fun y=>
 eT m.size (cI q3r [vi y] [m.size] u fun z A=>
 gk A u m.size 1 /\
 cV q1m [vp b.1 b.2,vi d,vi y,vi z] A fun B C=>
 Sam [m.size] A C /\
 R (.tuple #[]) C))))) (iP (c == 19) (eT m.size (rS u a.1 (a.2+3+5) fun v=>
 rS u b.1 (b.2+3) fun x=>
 eT m.size (rg 0 g (rI u g.blk (g.off+Int.toNat 0*1) fun y=>
 rg y x (rI u x.blk (x.off+y.toNat*1) fun z=>
 rg (w64 (z - 1000)) v (rS u v.blk (v.off+Int.toNat (w64 (z - 1000))*3+2) fun A=>
 eT m.size (rg e A (rI u A.blk (A.off+e.toNat*1) fun B=>
 cV q1m [vp b.1 b.2,vi d,vi B,vi 0] u fun C D=>
 Sam [m.size] u D /\
 R (.tuple #[]) D)))))))) (iP (c == 20) (rS u b.1 (b.2+3) fun v=>
 eT m.size (rg 0 g (rI u g.blk (g.off+Int.toNat 0*1) fun x=>
 rg x v (rI u v.blk (v.off+x.toNat*1) fun y=>
 iP (y == 0) (eT m.size (wrOk u b.1 (b.2+1) 1 /\
 let z:=scells u b.1 (b.2+1) [.i e]
 Sam [m.size] u z /\
 R (.tuple #[]) z)) (R (.tuple #[]) u))))) (iP (c == 22) (eT m.size (wrOk u b.1 (b.2+1) 1 /\
 let v:=scells u b.1 (b.2+1) [.i e]
 Sam [m.size] u v /\
 R (.tuple #[]) v)) (iP (c == 21) (rS u a.1 (a.2+3+5) fun v=>
 rS u b.1 (b.2+3) fun x=>
 eT m.size (rg 0 g (rI u g.blk (g.off+Int.toNat 0*1) fun y=>
 rg y x (rI u x.blk (x.off+y.toNat*1) fun z=>
 rg (w64 (z - 1000)) v (rI u v.blk (v.off+Int.toNat (w64 (z - 1000))*3+1) fun A=>
 eT m.size (rS u a.1 a.2 fun B=>
 eT m.size (cS q5y [Sl.v B,vi e] [m.size] u fun C D=>
 gk D u m.size 5 /\
 cI q3z [Sl.v C,vi A] [m.size] D fun E F=>
 gk F D m.size 5 /\
 rg E h (rI F h.blk (h.off+E.toNat*1) fun G=>
 wrOk F b.1 (b.2+1) 1 /\
 let H:=scells F b.1 (b.2+1) [.i G]
 Sam [m.size] F H /\
 R (.tuple #[]) H)))))))) (iP ((c == 9) || (c == 24)) (eT m.size (eT m.size (eT m.size (cS q2q [vp b.1 b.2,Sl.v g] [m.size] u fun v x=>
 gk x u m.size 0 /\
 gk x u m.size 1 /\
 gk x u m.size 2 /\
 gk x u m.size 3 /\
 gk x u m.size 4 /\
 gk x u m.size 5 /\
 gk x u m.size 2 /\
 cV q34 [vp a.1 a.2,vi e,Sl.v v,.agg #[vi c,vi d,vi e,vi f,Sl.v g,Sl.v h]] x fun y z=>
 Sam [m.size] x z /\
 R (.tuple #[]) z)))) (iP (c == 11) (rS u b.1 (b.2+3) fun v=>
 eT m.size (rg 0 g (rI u g.blk (g.off+Int.toNat 0*1) fun x=>
 rg x v (rI u v.blk (v.off+x.toNat*1) fun y=>
 rS u a.1 (a.2+3+5) fun z=>
 rg (w64 (y - 1000)) z (rI u z.blk (z.off+Int.toNat (w64 (y - 1000))*3) fun A=>
 rI u z.blk (z.off+Int.toNat (w64 (y - 1000))*3+1) fun B=>
 rS u z.blk (z.off+Int.toNat (w64 (y - 1000))*3+2) fun C=>
 let D:=u.push (.cells (vals [.i 0,.i 0,.s Sl.nil]) 149)
 eT u.size (let E:=scells D u.size 0 [.i A,.i B,.s C]
 eT u.size (rS E b.1 (b.2+3) fun F=>
 eT m.size (rg 1 g (rI E g.blk (g.off+Int.toNat 1*1) fun G=>
 rg G F (rI E F.blk (F.off+G.toNat*1) fun H=>
 (cS q11 [Sl.v C] [u.size,m.size] E fun J K=>
 gk K E F.blk (F.off+G.toNat*1) /\
 gk K E g.blk (g.off+Int.toNat 1*1) /\
 gk K E m.size 4 /\
 gk K E b.1 (b.2+3) /\
 let L:=K.push (.cells (vals [.i H]) 3)
 gk L K u.size 2 /\
 appC L 3 [.i 0] 8 J (Sl.mk K.size 0 1 1) fun M N =>
 Sam [u.size,m.size] L N /\
 cB q2x [vp a.1 a.2,vi y,vb false] [u.size,m.size] N fun O P=>
 eT u.size (rI P a.1 (a.2+2) fun Q=>
 eT m.size (cV q34 [vp a.1 a.2,vi (w64 (B - Q)),Sl.v M,.agg #[vi c,vi d,vi e,vi f,Sl.v g,Sl.v h]] P fun S T=>
 Sam [u.size,m.size] P T /\
 R (.tuple #[]) T))) /\
 (let J:=E.push (.cells (vals [.i H]) 3)
 gk J E u.size 2 /\
 cS q11 [Sl.v C] [u.size,m.size] J fun K L=>
 gk L J F.blk (F.off+G.toNat*1) /\
 gk L J g.blk (g.off+Int.toNat 1*1) /\
 gk L J m.size 4 /\
 gk L J b.1 (b.2+3) /\
 appC L 3 [.i 0] 8 K (Sl.mk E.size 0 1 1) fun M N =>
 Sam [u.size,m.size] L N /\
 cB q2x [vp a.1 a.2,vi y,vb false] [u.size,m.size] N fun O P=>
 eT u.size (rI P a.1 (a.2+2) fun Q=>
 eT m.size (cV q34 [vp a.1 a.2,vi (w64 (B - Q)),Sl.v M,.agg #[vi c,vi d,vi e,vi f,Sl.v g,Sl.v h]] P fun S T=>
 Sam [u.size,m.size] P T /\
 R (.tuple #[]) T))))))))))))) (iP (c == 23) (rS u b.1 (b.2+3) fun v=>
 eT m.size (rg 0 g (rI u g.blk (g.off+Int.toNat 0*1) fun x=>
 rg x v (rI u v.blk (v.off+x.toNat*1) fun y=>
 cV q4s [vp a.1 a.2,vi y] u fun z A=>
 Sam [m.size] u A /\
 R (.tuple #[]) A)))) (R (.tuple #[]) u))))))))))))))))))):cV q4b [vp a.1 a.2,vp b.1 b.2,.agg #[vi c,vi d,vi e,vi f,Sl.v g,Sl.v h]] m R:=vcs (dl:=[18,20,22,23,26,32,33,35,37,42,43,46,48,50,52,54]) (A1:=[(3,[(24,.I)])]) (A2:=[]) (A3:=[(3,[353])]) (args:=[.c (.p a.1 a.2),.c (.p b.1 b.2),.agg [.i c,.i d,.i e,.i f,.s g,.s h]]) Tryz.func81 h'

theorem qlm (a b:Int) (c:Sl) (d e:Int) (f:Sl) (h' :
 let g:=m.push (.cells (vals [.i a,.i b,.s c]) 122)
 let h:=g.push (.cells (vals [.i d,.i e,.s f]) 122)
 eT m.size (eT g.size (iP (a != d) (R (vb false) h) (eT m.size (eT g.size (iP (b != e) (R (vb false) h) (eT m.size (eT g.size (cB qbo [Sl.v c,Sl.v f] [g.size,m.size] h fun i j=>
 iP (!i) (R (vb false) j) (R (vb true) j)))))))))):cV qby [.agg #[vi a,vi b,Sl.v c],.agg #[vi d,vi e,Sl.v f]] m R:=vcs (dl:=[]) (A1:=[]) (A2:=[]) (A3:=[]) (args:=[.agg [.i a,.i b,.s c],.agg [.i d,.i e,.s f]]) Tryz.func82 h'

theorem qlq (a b:Sl) (c d:Int) (e f g:Sl) (h i:Int) (j:Sl) (h' :
 let k:=m.push (.cells (vals [.s a,.s b,.i c,.i d,.s e]) 89)
 let l:=k.push (.cells (vals [.s f,.s g,.i h,.i i,.s j]) 89)
 eT m.size (eT k.size (cB q22 [Sl.v a,Sl.v f] [k.size,m.size] l fun n o=>
 iP (!n) (R (vb false) o) (eT m.size (eT k.size (cB q22 [Sl.v b,Sl.v g] [k.size,m.size] o fun p q=>
 iP (!p) (R (vb false) q) (eT m.size (eT k.size (iP (c != h) (R (vb false) q) (eT m.size (eT k.size (iP (d != i) (R (vb false) q) (eT m.size (eT k.size (cB q9i [Sl.v e,Sl.v j] [k.size,m.size] q fun s t=>
 iP (!s) (R (vb false) t) (R (vb true) t)))))))))))))))):cV qbt [.agg #[Sl.v a,Sl.v b,vi c,vi d,Sl.v e],.agg #[Sl.v f,Sl.v g,vi h,vi i,Sl.v j]] m R:=vcs (dl:=[]) (A1:=[]) (A2:=[]) (A3:=[]) (args:=[.agg [.s a,.s b,.i c,.i d,.s e],.agg [.s f,.s g,.i h,.i i,.s j]]) Tryz.func83 h'

theorem qhx (a:Sl) (b:Int) (h' :
 ∃ (c:Int->Int->Mem->Prop) (d:Int->Int->Mem->Nat),
 c b 0 m /\
 (∀ e f g,c e f g ->
 iP (decide (f < a.len)) (0<=f/\f < a.len /\
 ∃ h:Sl,gcell g a.blk (a.off+f.toNat*1)=some (Sl.v h) /\
 cV q1t [Sl.v h,vi e] g fun i j=>
 ∃ k:Int,i=vi k /\
 c k (w64 (f+1)) j/\d k (w64 (f+1)) j < d e f g) (R (vi e) g))):cV q9f [Sl.v a,vi b] m R:=vcs (dl:=[]) (A1:=[(2,[(1,.I),(5,.I)])]) (A2:=[]) (A3:=[]) (args:=[.c (.s a),.c (.i b)]) Tryz.func84 h'

theorem qf1 (a:Sl) (b:Int) (h' :
 ∃ (c:Int->Int->Mem->Prop) (d:Int->Int->Mem->Nat),
 c b 0 m /\
 (∀ e f g,c e f g ->
 iP (decide (f < a.len)) (0<=f/\f < a.len /\
 wrOk g a.blk (a.off+f.toNat*6) 1 /\
 let h:=scells g a.blk (a.off+f.toNat*6) [.i e]
 0<=f/\f < a.len /\
 wrOk h a.blk (a.off+f.toNat*6+1) 1 /\
 let i:=scells h a.blk (a.off+f.toNat*6+1) [.i (w64 (e+1))]
 0<=f/\f < a.len /\
 wrOk i a.blk (a.off+f.toNat*6+2) 1 /\
 let j:=scells i a.blk (a.off+f.toNat*6+2) [.i (w64 ((w64 (e+1))+1))]
 0<=f/\f < a.len /\
 wrOk j a.blk (a.off+f.toNat*6+3) 1 /\
 let k:=scells j a.blk (a.off+f.toNat*6+3) [.i (w64 ((w64 ((w64 (e+1))+1))+1))]
 0<=f/\f < a.len /\
 ∃ l:Sl,gcell k a.blk (a.off+f.toNat*6+4)=some (Sl.v l) /\
 cV q1t [Sl.v l,vi (w64 ((w64 ((w64 ((w64 (e+1))+1))+1))+1))] k fun n o=>
 ∃ p:Int,n=vi p /\
 0<=f/\f < a.len /\
 ∃ q:Sl,gcell o a.blk (a.off+f.toNat*6+5)=some (Sl.v q) /\
 cV q1t [Sl.v q,vi p] o fun s t=>
 ∃ u:Int,s=vi u /\
 c u (w64 (f+1)) t/\d u (w64 (f+1)) t < d e f g) (R (vi e) g))):cV q7f [Sl.v a,vi b] m R:=vcs (dl:=[]) (A1:=[(2,[(1,.I),(5,.I)])]) (A2:=[]) (A3:=[]) (args:=[.c (.s a),.c (.i b)]) Tryz.func85 h'

end
section
set_option linter.unusedVariables false
set_option maxRecDepth 100000
variable {m:Mem} {R:Value->Mem->Prop}
theorem qkw (a b:Int) (c:Sl) (d:Int) (h' :
 let e:=m.push (.cells (vals [.i a,.i b,.s c]) 151)
 eT m.size (cI q25 [Sl.v c,vi d] [m.size] e fun f g=>
 iP (decide (f < 0)) (R (vi (-1)) g) (R (vi f) g))):cV qbj [.agg #[vi a,vi b,Sl.v c],vi d] m R:=vcs (dl:=[]) (A1:=[]) (A2:=[]) (A3:=[]) (args:=[.agg [.i a,.i b,.s c],.c (.i d)]) Tryz.func89 h'

theorem qik (a b c:Int) (d e f:Sl) (g:Int) (h' :
 let h:=m.push (.cells (vals [.i a,.i b,.i c,.s d,.s e,.s f]) 153)
 eT m.size (cI q25 [Sl.v d,vi g] [m.size] h fun i j=>
 iP (decide (i < 0)) (R (vi (-1)) j) (eT m.size (cI q25 [Sl.v e,vi i] [m.size] j fun k l=>
 iP (decide (k < 0)) (R (vi (-1)) l) (eT m.size (cI q25 [Sl.v f,vi k] [m.size] l fun n o=>
 iP (decide (n < 0)) (R (vi (-1)) o) (R (vi n) o))))))):cV qac [.agg #[vi a,vi b,vi c,Sl.v d,Sl.v e,Sl.v f],vi g] m R:=vcs (dl:=[]) (A1:=[]) (A2:=[]) (A3:=[]) (args:=[.agg [.i a,.i b,.i c,.s d,.s e,.s f],.c (.i g)]) Tryz.func90 h'

theorem qfg (a:Sl) (h' :
 ∃ (b:Int->Mem->Prop) (c:Int->Mem->Nat),
 b 0 m /\
 (∀ d e,b d e ->
 iP (decide (d < a.len)) (0<=d/\d < a.len /\
 ∃ f:Int,gcell e a.blk (a.off+d.toNat*1)=some (vi f) /\
 cV q0d [vi f,vi (-999),vi 999] e fun g h=>
 ∃ i:Bool,g=vb i /\
 iP (!i) (R (vb false) h) (b (w64 (d+1)) h/\c (w64 (d+1)) h < c d e)) (R (vb true) e))):cV q7n [Sl.v a] m R:=vcs (dl:=[]) (A1:=[(2,[(3,.I)])]) (A2:=[]) (A3:=[]) (args:=[.c (.s a)]) Tryz.func91 h'

theorem qgf (a:Sl) (h' :
 ∃ b:Mem->Prop,
 (iP (decide ((a.len:Int) > 0)) (0<=(w64 ((a.len:Int) - 1))/\(w64 ((a.len:Int) - 1)) < (a.len:Int) /\
 ∃ c:Int,gcell m a.blk (a.off+Int.toNat (w64 ((a.len:Int) - 1))*3)=some (vi c) /\
 iP (c == 0) (R (vb false) m) (b m)) (b m)) /\
 (∀ c,b c ->
 ∃ (d:Int->Mem->Prop) (e:Int->Mem->Nat),
 d 0 c /\
 (∀ f g,d f g ->
 iP (decide (f < a.len)) (0<=f/\f < a.len /\
 ∃ h:Int,gcell g a.blk (a.off+f.toNat*3)=some (vi h) /\
 ∃ i:Int,gcell g a.blk (a.off+f.toNat*3+1)=some (vi i) /\
 ∃ j:Sl,gcell g a.blk (a.off+f.toNat*3+2)=some (Sl.v j) /\
 cV q8o [Sl.v a,.agg #[vi h,vi i,Sl.v j]] g fun k l=>
 ∃ n:Bool,k=vb n /\
 iP (!n) (R (vb false) l) (d (w64 (f+1)) l/\e (w64 (f+1)) l < e f g)) (cV q7w [Sl.v a] g fun h i=>
 ∃ j:Sl,h=Sl.v j /\
 ∃ (k:Int->Mem->Prop) (l:Int->Mem->Nat),
 k 0 i /\
 (∀ n o,k n o ->
 iP (decide (n < a.len)) (0<=n/\n < a.len /\
 ∃ p:Int,gcell o a.blk (a.off+n.toNat*3)=some (vi p) /\
 iP (decide (p > 0)) (0<=n/\n < a.len /\
 ∃ q:Int,gcell o a.blk (a.off+n.toNat*3)=some (vi q) /\
 0<=n/\n < j.len /\
 ∃ s:Int,gcell o j.blk (j.off+n.toNat*1)=some (vi s) /\
 iP (decide (q < s)) (R (vb false) o) (k (w64 (n+1)) o/\l (w64 (n+1)) o < l n o)) (k (w64 (n+1)) o/\l (w64 (n+1)) o < l n o)) (cV q8f [Sl.v a] o fun p q=>
 ∃ s:Bool,p=vb s /\
 R (vb s) q)))))):cV q8j [Sl.v a] m R:=vcs (dl:=[12]) (A1:=[(4,[(3,.I)]),(10,[(5,.I)])]) (A2:=[(3,[])]) (A3:=[]) (args:=[.c (.s a)]) Tryz.func92 h'

theorem qfh (a b:Sl) (c d e f:Int) (g h i:Sl) (j:Int) (h' :
 let k:=m.push (.cells (vals [.s a,.s b]) 35)
 let l:=k.push (.cells (vals [.i c,.i d,.i e,.i f,.s g,.s h,.s i]) 55)
 eT k.size (rg j i (rI l i.blk (i.off+j.toNat*6) fun n=>
 rI l i.blk (i.off+j.toNat*6+1) fun o=>
 rI l i.blk (i.off+j.toNat*6+2) fun p=>
 rS l i.blk (i.off+j.toNat*6+3) fun q=>
 rS l i.blk (i.off+j.toNat*6+4) fun s=>
 rS l i.blk (i.off+j.toNat*6+5) fun t=>
 let u:=l.push (.cells (vals [.i 0,.i 0,.i 0,.s Sl.nil,.s Sl.nil,.s Sl.nil]) 84)
 eT l.size (let v:=scells u l.size 0 [.i n,.i o,.i p,.s q,.s s,.s t]
 eT l.size (eT m.size (cB q0d [vi n,vi 0,vi (w64 ((b.len:Int) - 1))] [l.size,k.size,m.size] v fun x y=>
 iP (!x) (R (vb false) y) (eT m.size (eT l.size (rg n b (rS y b.blk (b.off+n.toNat*5) fun z=>
 rS y b.blk (b.off+n.toNat*5+1) fun A=>
 rI y b.blk (b.off+n.toNat*5+2) fun B=>
 rI y b.blk (b.off+n.toNat*5+3) fun C=>
 rS y b.blk (b.off+n.toNat*5+4) fun D=>
 let E:=y.push (.cells (vals [.s Sl.nil,.s Sl.nil,.i 0,.i 0,.s Sl.nil]) 89)
 eT y.size (let F:=scells E y.size 0 [.s z,.s A,.i B,.i C,.s D]
 eT l.size (eT y.size (cB q0d [vi o,vi 0,vi (w64 ((D.len:Int) - 1))] [y.size,l.size,k.size,m.size] F fun G H=>
 iP (!G) (R (vb false) H) (eT l.size (eT y.size (iP ((q.len:Int) != C) (R (vb false) H) (eT l.size (eT y.size (iP ((s.len:Int) != C) (R (vb false) H) (eT l.size (eT y.size (iP ((t.len:Int) != C) (R (vb false) H) (eT k.size (eT l.size (cB q8n [Sl.v h,.agg #[vi n,vi o,vi p,Sl.v q,Sl.v s,Sl.v t]] [y.size,l.size,k.size,m.size] H fun J K=>
 iP (!J) (R (vb false) K) (iP (j == 0) (eT l.size (R (vb (p == 0)) K)) (eT l.size (eT k.size (rg (w64 (j - 1)) i (rS K i.blk (i.off+Int.toNat (w64 (j - 1))*6+4) fun L=>
 cB q0d [vi p,vi 0,vi (w64 ((L.len:Int) - 1))] [y.size,l.size,k.size,m.size] K fun M N=>
 iP M (eT k.size (rg (w64 (j - 1)) i (rS N i.blk (i.off+Int.toNat (w64 (j - 1))*6+4) fun O=>
 eT l.size (rg p O (rI N O.blk (O.off+p.toNat*1) fun P=>
 R (vb (P == 0)) N))))) (R (vb false) N))))))))))))))))))))))))))))))):cV q75 [.agg #[Sl.v a,Sl.v b],.agg #[vi c,vi d,vi e,vi f,Sl.v g,Sl.v h,Sl.v i],vi j] m R:=vcs (dl:=[9]) (A1:=[]) (A2:=[]) (A3:=[]) (args:=[.agg [.s a,.s b],.agg [.i c,.i d,.i e,.i f,.s g,.s h,.s i],.c (.i j)]) Tryz.func93 h'

theorem qhi (a b c d:Int) (e f g:Sl) (h' :
 let h:=m.push (.cells (vals [.i a,.i b,.i c,.i d,.s e,.s f,.s g]) 55)
 eT m.size (0<=(f.len:Int)/\(f.len:Int)<=(f.len:Int)/\((8:Nat):Int)*(f.len:Int)<=281474976710656/\(f.len:Int)<=9223372036854775807 /\
 let i:=h.push (.cells (vals (zrow [.i 0] (Int.toNat (f.len:Int)))) 3)
 ∃ (j:Int->Mem->Prop) (k:Int->Mem->Nat),
 j 0 i /\
 (∀ l n,j l n ->
 eT m.size (iP (decide (l < g.len)) (∃ (o:Int->Mem->Prop) (p:Int->Mem->Nat),
 o 0 n /\
 (∀ q s,o q s ->
 eT m.size (rg l g (rS s g.blk (g.off+l.toNat*6+5) fun t=>
 iP (decide (q < t.len)) (eT m.size (rg l g (rS s g.blk (g.off+l.toNat*6+5) fun u=>
 rg q u (rI s u.blk (u.off+q.toNat*1) fun v=>
 iP (v != 0) (cB q13 [vi v] [m.size] s fun x y=>
 iP (!x) (R (vb false) y) (eT m.size (cB q0d [vi (w64 (v - 1000)),vi 0,vi (w64 ((f.len:Int) - 1))] [m.size] y fun z A=>
 iP (!z) (R (vb false) A) (0<=(w64 (v - 1000))/\(w64 (v - 1000)) < ((Sl.mk h.size 0 (Int.toNat (f.len:Int)) (Int.toNat (f.len:Int))).len:Int) /\
 rI A ((Sl.mk h.size 0 (Int.toNat (f.len:Int)) (Int.toNat (f.len:Int))).blk) ((Sl.mk h.size 0 (Int.toNat (f.len:Int)) (Int.toNat (f.len:Int))).off+Int.toNat (w64 (v - 1000))*1) fun B=>
 0<=(w64 (v - 1000))/\(w64 (v - 1000)) < ((Sl.mk h.size 0 (Int.toNat (f.len:Int)) (Int.toNat (f.len:Int))).len:Int) /\
 wrOk A ((Sl.mk h.size 0 (Int.toNat (f.len:Int)) (Int.toNat (f.len:Int))).blk) ((Sl.mk h.size 0 (Int.toNat (f.len:Int)) (Int.toNat (f.len:Int))).off+Int.toNat (w64 (v - 1000))*1) 1 /\
 let C:=scells A ((Sl.mk h.size 0 (Int.toNat (f.len:Int)) (Int.toNat (f.len:Int))).blk) ((Sl.mk h.size 0 (Int.toNat (f.len:Int)) (Int.toNat (f.len:Int))).off+Int.toNat (w64 (v - 1000))*1) [.i (w64 (B+1))]
 Sam [m.size] A C /\
 eS m.size 55 [.i a,.i b,.i c,.i d,.s e,.s f,.s g] (o (w64 (q+1)) C/\p (w64 (q+1)) C < p q s))))) (eS m.size 55 [.i a,.i b,.i c,.i d,.s e,.s f,.s g] (o (w64 (q+1)) s/\p (w64 (q+1)) s < p q s)))))) (eS m.size 55 [.i a,.i b,.i c,.i d,.s e,.s f,.s g] (j (w64 (l+1)) s/\k (w64 (l+1)) s < k l n)))))) (∃ (o:Int->Mem->Prop) (p:Int->Mem->Nat),
 o 0 n /\
 (∀ q s,o q s ->
 iP (decide (q < ((Sl.mk h.size 0 (Int.toNat (f.len:Int)) (Int.toNat (f.len:Int))).len:Int))) (eT m.size (rg q f (rI s f.blk (f.off+q.toNat*3) fun t=>
 iP (decide (t < 0)) (0<=q/\q < ((Sl.mk h.size 0 (Int.toNat (f.len:Int)) (Int.toNat (f.len:Int))).len:Int) /\
 rI s ((Sl.mk h.size 0 (Int.toNat (f.len:Int)) (Int.toNat (f.len:Int))).blk) ((Sl.mk h.size 0 (Int.toNat (f.len:Int)) (Int.toNat (f.len:Int))).off+q.toNat*1) fun u=>
 iP (u != 1) (R (vb false) s) (eT m.size (rg q f (rI s f.blk (f.off+q.toNat*3) fun v=>
 iP (decide (v ≥ 0)) (0<=q/\q < ((Sl.mk h.size 0 (Int.toNat (f.len:Int)) (Int.toNat (f.len:Int))).len:Int) /\
 rI s ((Sl.mk h.size 0 (Int.toNat (f.len:Int)) (Int.toNat (f.len:Int))).blk) ((Sl.mk h.size 0 (Int.toNat (f.len:Int)) (Int.toNat (f.len:Int))).off+q.toNat*1) fun x=>
 iP (x != 0) (R (vb false) s) (eS m.size 55 [.i a,.i b,.i c,.i d,.s e,.s f,.s g] (o (w64 (q+1)) s/\p (w64 (q+1)) s < p q s))) (eS m.size 55 [.i a,.i b,.i c,.i d,.s e,.s f,.s g] (o (w64 (q+1)) s/\p (w64 (q+1)) s < p q s)))))) (eT m.size (rg q f (rI s f.blk (f.off+q.toNat*3) fun u=>
 iP (decide (u ≥ 0)) (0<=q/\q < ((Sl.mk h.size 0 (Int.toNat (f.len:Int)) (Int.toNat (f.len:Int))).len:Int) /\
 rI s ((Sl.mk h.size 0 (Int.toNat (f.len:Int)) (Int.toNat (f.len:Int))).blk) ((Sl.mk h.size 0 (Int.toNat (f.len:Int)) (Int.toNat (f.len:Int))).off+q.toNat*1) fun v=>
 iP (v != 0) (R (vb false) s) (eS m.size 55 [.i a,.i b,.i c,.i d,.s e,.s f,.s g] (o (w64 (q+1)) s/\p (w64 (q+1)) s < p q s))) (eS m.size 55 [.i a,.i b,.i c,.i d,.s e,.s f,.s g] (o (w64 (q+1)) s/\p (w64 (q+1)) s < p q s)))))))) (R (vb true) s))))))):cV q9e [.agg #[vi a,vi b,vi c,vi d,Sl.v e,Sl.v f,Sl.v g]] m R:=vcs (dl:=[]) (A1:=[(3,[(4,.I)]),(6,[(5,.I)]),(14,[(7,.I)])]) (A2:=[]) (A3:=[(3,[101]),(6,[101]),(14,[101])]) (args:=[.agg [.i a,.i b,.i c,.i d,.s e,.s f,.s g]]) Tryz.func94 h'

theorem qeo (a b c d:Int) (e f g:Sl) (h' :
 let h:=m.push (.cells (vals [.i a,.i b,.i c,.i d,.s e,.s f,.s g]) 55)
 eT m.size (cS q7w [Sl.v f] [m.size] h fun i j=>
 eT m.size (cS q91 [.agg #[vi a,vi b,vi c,vi d,Sl.v e,Sl.v f,Sl.v g]] [m.size] j fun k l=>
 ∃ (n:Int->Mem->Prop) (o:Int->Mem->Nat),
 n 0 l /\
 (∀ p q,n p q ->
 eT m.size (iP (decide (p < f.len)) (eT m.size (rg p f (rI q f.blk (f.off+p.toNat*3) fun s=>
 iP (decide (s > 0)) (eT m.size (rg p f (rI q f.blk (f.off+p.toNat*3) fun t=>
 rg p i (rI q i.blk (i.off+p.toNat*1) fun u=>
 rg p k (rI q k.blk (k.off+p.toNat*1) fun v=>
 iP (t != (w64 (u+v))) (R (vb false) q) (eS m.size 55 [.i a,.i b,.i c,.i d,.s e,.s f,.s g] (n (w64 (p+1)) q/\o (w64 (p+1)) q < o p q))))))) (eS m.size 55 [.i a,.i b,.i c,.i d,.s e,.s f,.s g] (n (w64 (p+1)) q/\o (w64 (p+1)) q < o p q))))) (R (vb true) q)))))):cV q6k [.agg #[vi a,vi b,vi c,vi d,Sl.v e,Sl.v f,Sl.v g]] m R:=vcs (dl:=[6]) (A1:=[(4,[(5,.I)])]) (A2:=[]) (A3:=[(4,[44])]) (args:=[.agg [.i a,.i b,.i c,.i d,.s e,.s f,.s g]]) Tryz.func95 h'

theorem qi4 (a:Sl) (h' :
 let b:=m.push (.cells (vals []) 149)
 ∃ (c:Sl->Int->Mem->Prop) (d:Sl->Int->Mem->Nat),
 c (Sl.mk m.size 0 0 0) 0 b /\
 (∀ e f g,c e f g ->
 iP (decide (f < a.len)) (0<=f/\f < a.len /\
 ∃ h:Int,gcell g a.blk (a.off+f.toNat*3)=some (vi h) /\
 0<=f/\f < a.len /\
 ∃ i:Int,gcell g a.blk (a.off+f.toNat*3+1)=some (vi i) /\
 0<=f/\f < a.len /\
 ∃ j:Sl,gcell g a.blk (a.off+f.toNat*3+2)=some (Sl.v j) /\
 cV q15 [Sl.v j] g fun k l=>
 ∃ n:Sl,k=Sl.v n /\
 gcell l a.blk (a.off+f.toNat*3+1)=gcell g a.blk (a.off+f.toNat*3+1) /\
 gcell l a.blk (a.off+f.toNat*3)=gcell g a.blk (a.off+f.toNat*3) /\
 let o:=l.push (.cells (vals [.i h,.i i,.s n]) 149)
 appC o 149 [.i 0,.i 0,.s Sl.nil] 40 e (Sl.mk l.size 0 1 1) fun p q =>
 c p (w64 (f+1)) q/\d p (w64 (f+1)) q < d e f g) (R (Sl.v e) g))):cV q1f [Sl.v a] m R:=vcs (dl:=[5]) (A1:=[(3,[(3,.S),(4,.I)])]) (A2:=[]) (A3:=[]) (args:=[.c (.s a)]) Tryz.func96 h'

theorem qlo (a:Int) (h' :
 iP (a == 9) (R (vb true) m) (iP (a == 11) (R (vb true) m) (R (vb (a == 24)) m))):cV qc0 [vi a] m R:=vcs (dl:=[]) (A1:=[]) (A2:=[]) (A3:=[]) (args:=[.c (.i a)]) Tryz.func97 h'

theorem qho (a b c:Int) (d e f g:Sl) (h' :
 let h:=m.push (.cells (vals [.i a,.i b,.i c,.s d,.s e,.s f]) 84)
 eT m.size (cS q15 [Sl.v e] [m.size] h fun i j=>
 ∃ (k:Int->Mem->Prop) (l:Int->Mem->Nat),
 k 0 j /\
 (∀ n o,k n o ->
 iP (decide (n < g.len)) (eT m.size (rg n g (rI o g.blk (g.off+n.toNat*1) fun p=>
 rg p d (rI o d.blk (d.off+p.toNat*1) fun q=>
 cB q13 [vi q] [m.size] o fun s t=>
 iP s (rg n g (rI t g.blk (g.off+n.toNat*1) fun u=>
 rg n g (rI t g.blk (g.off+n.toNat*1) fun v=>
 rg v i (rI t i.blk (i.off+v.toNat*1) fun x=>
 rg u i (wrOk t i.blk (i.off+u.toNat*1) 1 /\
 let y:=scells t i.blk (i.off+u.toNat*1) [.i (w64 (x - 1))]
 Sam [m.size] t y /\
 eS m.size 84 [.i a,.i b,.i c,.s d,.s e,.s f] (k (w64 (n+1)) y/\l (w64 (n+1)) y < l n o)))))) (eS m.size 84 [.i a,.i b,.i c,.s d,.s e,.s f] (k (w64 (n+1)) t/\l (w64 (n+1)) t < l n o)))))) (R (Sl.v i) o)))):cV q69 [.agg #[vi a,vi b,vi c,Sl.v d,Sl.v e,Sl.v f],Sl.v g] m R:=vcs (dl:=[5,6]) (A1:=[(3,[(6,.I)])]) (A2:=[]) (A3:=[(3,[42])]) (args:=[.agg [.i a,.i b,.i c,.s d,.s e,.s f],.c (.s g)]) Tryz.func98 h'

theorem qii (a b:Sl) (c d e f:Int) (g h:Sl) (h' :
 let i:=m.push (.cells (vals [.s a,.s b]) 35)
 let j:=i.push (.cells (vals [.i c,.i d,.i e,.i f,.s g,.s h]) 86)
 let k:=j.push (.cells (vals []) 3)
 ∃ l:Bool->Mem->Prop,
 (eT i.size (cB q90 [vi c] [i.size,m.size] k fun n o=>
 iP n (eS i.size 86 [.i c,.i d,.i e,.i f,.s g,.s h] (eS m.size 35 [.s a,.s b] (l true o))) (eT i.size (iP (c == 24) (eS i.size 86 [.i c,.i d,.i e,.i f,.s g,.s h] (eS m.size 35 [.s a,.s b] (l true o))) (eT i.size (iP (c == 18) (eS i.size 86 [.i c,.i d,.i e,.i f,.s g,.s h] (eS m.size 35 [.s a,.s b] (l true o))) (eT i.size (iP (c == 23) (eS i.size 86 [.i c,.i d,.i e,.i f,.s g,.s h] (eS m.size 35 [.s a,.s b] (l true o))) (eT i.size (eS i.size 86 [.i c,.i d,.i e,.i f,.s g,.s h] (eS m.size 35 [.s a,.s b] (l (c == 15) o)))))))))))) /\
 (∀ n o,l n o ->
 iP n (∃ (p:Sl->Int->Mem->Prop) (q:Sl->Int->Mem->Nat),
 p (Sl.mk j.size 0 0 0) 0 o /\
 (∀ s t u,p s t u ->
 eT i.size (iP (decide (t < g.len)) (eT m.size (eT i.size (cB q5f [.agg #[Sl.v a,Sl.v b],.agg #[vi c,vi d,vi e,vi f,Sl.v g,Sl.v h],vi t] [i.size,m.size] u fun v x=>
 iP (!v) (eT i.size (rg t g (rI x g.blk (g.off+t.toNat*1) fun y=>
 let z:=x.push (.cells (vals [.i y]) 3)
 appC z 3 [.i 0] 8 s (Sl.mk x.size 0 1 1) fun A B =>
 Sam [i.size,m.size] z B /\
 eS i.size 86 [.i c,.i d,.i e,.i f,.s g,.s h] (eS m.size 35 [.s a,.s b] (p A (w64 (t+1)) B/\q A (w64 (t+1)) B < q s t u))))) (eS i.size 86 [.i c,.i d,.i e,.i f,.s g,.s h] (eS m.size 35 [.s a,.s b] (p s (w64 (t+1)) x/\q s (w64 (t+1)) x < q s t u)))))) (R (Sl.v s) u)))) (eT i.size (iP (c == 16) (eT i.size (rg 0 g (rI o g.blk (g.off+Int.toNat 0*1) fun p=>
 let q:=o.push (.cells (vals [.i p]) 3)
 appC q 3 [.i 0] 8 (Sl.mk j.size 0 0 0) (Sl.mk o.size 0 1 1) fun s t =>
 Sam [i.size,m.size] q t /\
 R (Sl.v s) t))) (eT i.size (iP (c == 17) (eT i.size (rg 0 g (rI o g.blk (g.off+Int.toNat 0*1) fun p=>
 let q:=o.push (.cells (vals [.i p]) 3)
 appC q 3 [.i 0] 8 (Sl.mk j.size 0 0 0) (Sl.mk o.size 0 1 1) fun s t =>
 Sam [i.size,m.size] q t /\
 R (Sl.v s) t))) (R (Sl.v (Sl.mk j.size 0 0 0)) o))))))):cV q6v [.agg #[Sl.v a,Sl.v b],.agg #[vi c,vi d,vi e,vi f,Sl.v g,Sl.v h]] m R:=vcs (dl:=[]) (A1:=[(4,[(5,.S),(6,.I)])]) (A2:=[(3,[(30,.T)])]) (A3:=[(3,[70,69]),(4,[70,69])]) (args:=[.agg [.s a,.s b],.agg [.i c,.i d,.i e,.i f,.s g,.s h]]) Tryz.func99 h'

end
section
set_option linter.unusedVariables false
set_option maxRecDepth 100000
variable {m:Mem} {R:Value->Mem->Prop}
theorem qch (a:Nat × Nat) (b c d:Int) (e f g:Sl) (h i j k:Int) (l n o:Sl) (h' :
 let p:=m.push (.cells (vals [.i b,.i c,.i d,.s e,.s f,.s g]) 84)
 let q:=p.push (.cells (vals [.i h,.i i,.i j,.i k,.s l,.s n]) 86)
 ∃ s:Mem->Prop,
 (cB q63 [Sl.v o] [p.size,m.size] q fun t u=>
 iP (!t) (R (vb false) u) (eT p.size (cB qb2 [vi h] [p.size,m.size] u fun v x=>
 iP v (eT p.size (rg i o (rI x o.blk (o.off+i.toNat*1) fun y=>
 iP (decide (y > 0)) (R (vb false) x) (eS p.size 86 [.i h,.i i,.i j,.i k,.s l,.s n] (eS m.size 84 [.i b,.i c,.i d,.s e,.s f,.s g] (s x)))))) (eS p.size 86 [.i h,.i i,.i j,.i k,.s l,.s n] (eS m.size 84 [.i b,.i c,.i d,.s e,.s f,.s g] (s x)))))) /\
 (∀ t,s t ->
 eT p.size (iP ((h == 1) || ((h == 2) || ((h == 3) || ((h == 4) || ((h == 5) || (h == 20)))))) (eT m.size (eT p.size (cB q7e [.agg #[vi b,vi c,vi d,Sl.v e,Sl.v f,Sl.v g],.agg #[vi h,vi i,vi j,vi k,Sl.v l,Sl.v n]] [p.size,m.size] t fun u v=>
 R (vb u) v))) (iP (h == 6) (eT m.size (eT p.size (cB q4u [vp a.1 a.2,.agg #[vi b,vi c,vi d,Sl.v e,Sl.v f,Sl.v g],.agg #[vi h,vi i,vi j,vi k,Sl.v l,Sl.v n]] [p.size,m.size] t fun u v=>
 R (vb u) v))) (iP (h == 9) (eT m.size (eT p.size (cB q3q [vp a.1 a.2,.agg #[vi b,vi c,vi d,Sl.v e,Sl.v f,Sl.v g],.agg #[vi h,vi i,vi j,vi k,Sl.v l,Sl.v n]] [p.size,m.size] t fun u v=>
 R (vb u) v))) (iP (h == 24) (eT m.size (eT p.size (cB q3q [vp a.1 a.2,.agg #[vi b,vi c,vi d,Sl.v e,Sl.v f,Sl.v g],.agg #[vi h,vi i,vi j,vi k,Sl.v l,Sl.v n]] [p.size,m.size] t fun u v=>
 iP u (cB q3v [Sl.v o] [p.size,m.size] v fun x y=>
 iP x (eT m.size (cB q3v [Sl.v g] [p.size,m.size] y fun z A=>
 R (vb z) A)) (R (vb false) y)) (R (vb false) v)))) (iP (h == 23) (cB q3v [Sl.v o] [p.size,m.size] t fun u v=>
 iP u (eT m.size (cB q3v [Sl.v g] [p.size,m.size] v fun x y=>
 iP x (rS y a.1 (a.2+2+6) fun z=>
 iP (decide ((z.len:Int) > 1)) (R (vb true) y) (eT m.size (eT p.size (rg 0 l (rI y l.blk (l.off+Int.toNat 0*1) fun A=>
 rg A e (rI y e.blk (e.off+A.toNat*1) fun B=>
 cB q13 [vi B] [p.size,m.size] y fun C D=>
 R (vb (!C)) D)))))) (R (vb false) y))) (R (vb false) v)) (iP (h == 11) (eT m.size (eT p.size (rg 0 l (rI t l.blk (l.off+Int.toNat 0*1) fun u=>
 rg u e (rI t e.blk (e.off+u.toNat*1) fun v=>
 cB q4r [vp a.1 a.2,vi v] [p.size,m.size] t fun x y=>
 R (vb x) y))))) (iP (h == 14) (eT m.size (eT p.size (rg 0 l (rI t l.blk (l.off+Int.toNat 0*1) fun u=>
 rg u e (rI t e.blk (e.off+u.toNat*1) fun v=>
 rS t a.1 (a.2+2+5) fun x=>
 cB q1w [Sl.v x,vi v] [p.size,m.size] t fun y z=>
 iP y (cV q0z [vp a.1 a.2,vi v] z fun A B=>
 Sam [p.size,m.size] z B /\
 ∃ C:Int,∃ D:Int,∃ E:Sl,A=.agg #[vi C,vi D,Sl.v E] /\
 R (vb (decide (C < 999999))) B) (R (vb false) z)))))) (iP (h == 15) (eT m.size (eT p.size (rg 0 l (rI t l.blk (l.off+Int.toNat 0*1) fun u=>
 rg u e (rI t e.blk (e.off+u.toNat*1) fun v=>
 cB q13 [vi v] [p.size,m.size] t fun x y=>
 R (vb x) y))))) (iP ((h == 16) || (h == 17)) (eT m.size (eT p.size (cB q5a [vp a.1 a.2,.agg #[vi b,vi c,vi d,Sl.v e,Sl.v f,Sl.v g],.agg #[vi h,vi i,vi j,vi k,Sl.v l,Sl.v n]] [p.size,m.size] t fun u v=>
 R (vb u) v))) (iP (h == 19) (rS t a.1 (a.2+2+5) fun u=>
 eT m.size (eT p.size (rg 0 l (rI t l.blk (l.off+Int.toNat 0*1) fun v=>
 rg v e (rI t e.blk (e.off+v.toNat*1) fun x=>
 cB q1w [Sl.v u,vi x] [p.size,m.size] t fun y z=>
 iP y (eT p.size (eT m.size (eT p.size (rg 0 l (rI z l.blk (l.off+Int.toNat 0*1) fun A=>
 rg A e (rI z e.blk (e.off+A.toNat*1) fun B=>
 cV q0z [vp a.1 a.2,vi B] z fun C D=>
 Sam [p.size,m.size] z D /\
 ∃ E:Int,∃ F:Int,∃ G:Sl,C=.agg #[vi E,vi F,Sl.v G] /\
 gk D z p.size 2 /\
 R (vb (decide (j < G.len))) D)))))) (R (vb false) z)))))) (iP (h == 21) (rS t a.1 (a.2+2+5) fun u=>
 eT m.size (eT p.size (rg 0 l (rI t l.blk (l.off+Int.toNat 0*1) fun v=>
 rg v e (rI t e.blk (e.off+v.toNat*1) fun x=>
 cB q1w [Sl.v u,vi x] [p.size,m.size] t fun y z=>
 iP y (rS z a.1 a.2 fun A=>
 eT p.size (eT m.size (eT p.size (rg 0 l (rI z l.blk (l.off+Int.toNat 0*1) fun B=>
 rg B e (rI z e.blk (e.off+B.toNat*1) fun C=>
 cS q7v [Sl.v A,vi j] [p.size,m.size] z fun D E=>
 gk E z e.blk (e.off+B.toNat*1) /\
 gk E z l.blk (l.off+Int.toNat 0*1) /\
 gk E z p.size 4 /\
 gk E z m.size 3 /\
 cV q0z [vp a.1 a.2,vi C] E fun F G=>
 Sam [p.size,m.size] E G /\
 ∃ H:Int,∃ J:Int,∃ K:Sl,F=.agg #[vi H,vi J,Sl.v K] /\
 cB q61 [Sl.v D,vi J] [p.size,m.size] G fun L M=>
 R (vb L) M)))))) (R (vb false) z)))))) (R (vb true) t)))))))))))))):cV q45 [vp a.1 a.2,.agg #[vi b,vi c,vi d,Sl.v e,Sl.v f,Sl.v g],.agg #[vi h,vi i,vi j,vi k,Sl.v l,Sl.v n],Sl.v o] m R:=vcs (dl:=[18,20,22,25,30,32]) (A1:=[]) (A2:=[(3,[])]) (A3:=[(3,[226,225])]) (args:=[.c (.p a.1 a.2),.agg [.i b,.i c,.i d,.s e,.s f,.s g],.agg [.i h,.i i,.i j,.i k,.s l,.s n],.c (.s o)]) Tryz.func100 h'

theorem qbp (a:Nat × Nat) (b c d:Int) (e f g:Sl) (h i j k:Int) (l n:Sl) (h' :
 let o:=m.push (.cells (vals [.i b,.i c,.i d,.s e,.s f,.s g]) 84)
 let p:=o.push (.cells (vals [.i h,.i i,.i j,.i k,.s l,.s n]) 86)
 eT o.size (iP (h == 0) (eT o.size (eT o.size (cV q27 [vp a.1 a.2,vi i,vi j] p fun q s=>
 Sam [o.size,m.size] p s /\
 R (.tuple #[]) s))) (iP ((h == 1) || ((h == 2) || ((h == 3) || (h == 4)))) (eT o.size (eT o.size (eT m.size (eT o.size (rg 0 l (rI p l.blk (l.off+Int.toNat 0*1) fun q=>
 rg q e (rI p e.blk (e.off+q.toNat*1) fun s=>
 eT m.size (eT o.size (rg 1 l (rI p l.blk (l.off+Int.toNat 1*1) fun t=>
 rg t e (rI p e.blk (e.off+t.toNat*1) fun u=>
 cI qem [vi h,vi s,vi u] [o.size,m.size] p fun v x=>
 gk x p o.size 1 /\
 cV q27 [vp a.1 a.2,vi i,vi v] x fun y z=>
 Sam [o.size,m.size] x z /\
 R (.tuple #[]) z))))))))))) (iP (h == 5) (rS p a.1 (a.2+2+4) fun q=>
 eT m.size (eT o.size (rg 0 l (rI p l.blk (l.off+Int.toNat 0*1) fun s=>
 rg s e (rI p e.blk (e.off+s.toNat*1) fun t=>
 let u:=p.push (.cells (vals [.i t]) 3)
 gk u p a.1 (a.2+2+4) /\
 appC u 3 [.i 0] 8 q (Sl.mk p.size 0 1 1) fun v x =>
 Sam [o.size,m.size] u x /\
 wrOk x a.1 (a.2+2+4) 1 /\
 let y:=scells x a.1 (a.2+2+4) [.s v]
 Sam [o.size,m.size] x y /\
 eT o.size (eT m.size (eT o.size (rg 0 l (rI y l.blk (l.off+Int.toNat 0*1) fun z=>
 rg z e (rI y e.blk (e.off+z.toNat*1) fun A=>
 cV q27 [vp a.1 a.2,vi i,vi A] y fun B C=>
 Sam [o.size,m.size] y C /\
 R (.tuple #[]) C)))))))))) (iP (h == 6) (eT m.size (eT o.size (eT o.size (cV q3k [vp a.1 a.2,.agg #[vi b,vi c,vi d,Sl.v e,Sl.v f,Sl.v g],.agg #[vi h,vi i,vi j,vi k,Sl.v l,Sl.v n],vi j] p fun q s=>
 Sam [o.size,m.size] p s /\
 R (.tuple #[]) s)))) (iP (h == 10) (eT m.size (eT o.size (rS p a.1 a.2 fun q=>
 eT o.size (cI q4y [Sl.v q] [o.size,m.size] p fun s t=>
 gk t p o.size 2 /\
 gk t p o.size 0 /\
 gk t p o.size 1 /\
 gk t p o.size 2 /\
 gk t p o.size 3 /\
 gk t p o.size 4 /\
 gk t p o.size 5 /\
 gk t p m.size 0 /\
 gk t p m.size 1 /\
 gk t p m.size 2 /\
 gk t p m.size 3 /\
 gk t p m.size 4 /\
 gk t p m.size 5 /\
 cV q3k [vp a.1 a.2,.agg #[vi b,vi c,vi d,Sl.v e,Sl.v f,Sl.v g],.agg #[vi h,vi i,vi j,vi k,Sl.v l,Sl.v n],vi (w64 (s+j))] t fun u v=>
 Sam [o.size,m.size] t v /\
 R (.tuple #[]) v)))) (iP ((h == 9) || ((h == 11) || (h == 24))) (eT m.size (eT o.size (cV q5l [vp a.1 a.2,.agg #[vi b,vi c,vi d,Sl.v e,Sl.v f,Sl.v g],.agg #[vi h,vi i,vi j,vi k,Sl.v l,Sl.v n]] p fun q s=>
 Sam [o.size,m.size] p s /\
 R (.tuple #[]) s))) (iP (h == 23) (eT m.size (eT m.size (eT o.size (rg 0 l (rI p l.blk (l.off+Int.toNat 0*1) fun q=>
 rg q e (rI p e.blk (e.off+q.toNat*1) fun s=>
 cV q5v [vp a.1 a.2,.agg #[vi b,vi c,vi d,Sl.v e,Sl.v f,Sl.v g],vi s] p fun t u=>
 Sam [o.size,m.size] p u /\
 R (.tuple #[]) u)))))) (iP (h == 14) (eT m.size (eT o.size (rg 0 l (rI p l.blk (l.off+Int.toNat 0*1) fun q=>
 rg q e (rI p e.blk (e.off+q.toNat*1) fun s=>
 let t:=p.push (.cells (vals [.i s]) 3)
 cV q4g [vp a.1 a.2,Sl.v (Sl.mk p.size 0 1 1)] t fun u v=>
 Sam [o.size,m.size] t v /\
 eT m.size (eT o.size (rg 0 l (rI v l.blk (l.off+Int.toNat 0*1) fun x=>
 eT m.size (eT o.size (rg 0 l (rI v l.blk (l.off+Int.toNat 0*1) fun y=>
 rg y f (rI v f.blk (f.off+y.toNat*1) fun z=>
 rg x f (wrOk v f.blk (f.off+x.toNat*1) 1 /\
 let A:=scells v f.blk (f.off+x.toNat*1) [.i (w64 (z+1))]
 Sam [o.size,m.size] v A /\
 eT m.size (cV q0s [vp a.1 a.2,vi (w64 (c+1))] A fun B C=>
 Sam [o.size,m.size] A C /\
 R (.tuple #[]) C)))))))))))))) (iP (h == 15) (rS p a.1 (a.2+2+5) fun q=>
 eT m.size (eT o.size (rg 0 l (rI p l.blk (l.off+Int.toNat 0*1) fun s=>
 rg s e (rI p e.blk (e.off+s.toNat*1) fun t=>
 let u:=p.push (.cells (vals [.i t]) 3)
 gk u p a.1 (a.2+2+5) /\
 cS q8l [Sl.v q,Sl.v (Sl.mk p.size 0 1 1)] [o.size,m.size] u fun v x=>
 wrOk x a.1 (a.2+2+5) 1 /\
 let y:=scells x a.1 (a.2+2+5) [.s v]
 Sam [o.size,m.size] x y /\
 eT m.size (cV q0s [vp a.1 a.2,vi (w64 (c+1))] y fun z A=>
 Sam [o.size,m.size] y A /\
 R (.tuple #[]) A)))))) (iP ((h == 16) || (h == 17)) (eT m.size (eT o.size (cV q4q [vp a.1 a.2,.agg #[vi b,vi c,vi d,Sl.v e,Sl.v f,Sl.v g],.agg #[vi h,vi i,vi j,vi k,Sl.v l,Sl.v n]] p fun q s=>
 Sam [o.size,m.size] p s /\
 R (.tuple #[]) s))) (iP (h == 18) (eT o.size (eT m.size (eT o.size (rg 0 l (rI p l.blk (l.off+Int.toNat 0*1) fun q=>
 rg q e (rI p e.blk (e.off+q.toNat*1) fun s=>
 cV q38 [vp a.1 a.2,vi i,vi s] p fun t u=>
 Sam [o.size,m.size] p u /\
 eT m.size (cV q0s [vp a.1 a.2,vi (w64 (c+1))] u fun v x=>
 Sam [o.size,m.size] u x /\
 R (.tuple #[]) x))))))) (iP (h == 19) (eT o.size (eT m.size (eT o.size (rg 0 l (rI p l.blk (l.off+Int.toNat 0*1) fun q=>
 rg q e (rI p e.blk (e.off+q.toNat*1) fun s=>
 eT o.size (cV q0z [vp a.1 a.2,vi s] p fun t u=>
 Sam [o.size,m.size] p u /\
 ∃ v:Int,∃ x:Int,∃ y:Sl,t=.agg #[vi v,vi x,Sl.v y] /\
 gk u p o.size 2 /\
 gk u p o.size 1 /\
 rg j y (rI u y.blk (y.off+j.toNat*1) fun z=>
 cV q27 [vp a.1 a.2,vi i,vi z] u fun A B=>
 Sam [o.size,m.size] u B /\
 R (.tuple #[]) B)))))))) (iP (h == 20) (eT m.size (eT o.size (rg 0 l (rI p l.blk (l.off+Int.toNat 0*1) fun q=>
 rg q e (rI p e.blk (e.off+q.toNat*1) fun s=>
 iP (s == 0) (eT o.size (cV q0s [vp a.1 a.2,vi j] p fun t u=>
 Sam [o.size,m.size] p u /\
 R (.tuple #[]) u)) (eT m.size (cV q0s [vp a.1 a.2,vi (w64 (c+1))] p fun t u=>
 Sam [o.size,m.size] p u /\
 R (.tuple #[]) u))))))) (iP (h == 21) (eT m.size (eT o.size (rg 0 l (rI p l.blk (l.off+Int.toNat 0*1) fun q=>
 rg q e (rI p e.blk (e.off+q.toNat*1) fun s=>
 cV q0z [vp a.1 a.2,vi s] p fun t u=>
 Sam [o.size,m.size] p u /\
 ∃ v:Int,∃ x:Int,∃ y:Sl,t=.agg #[vi v,vi x,Sl.v y] /\
 eT o.size (rS u a.1 a.2 fun z=>
 eT o.size (cI q44 [Sl.v z,vi (w64 (j - 1))] [o.size,m.size] u fun A B=>
 gk B u o.size 5 /\
 rg (w64 (x - A)) n (rI B n.blk (n.off+Int.toNat (w64 (x - A))*1) fun C=>
 cV q0s [vp a.1 a.2,vi C] B fun D E=>
 Sam [o.size,m.size] B E /\
 R (.tuple #[]) E)))))))) (iP (h == 22) (eT o.size (cV q0s [vp a.1 a.2,vi j] p fun q s=>
 Sam [o.size,m.size] p s /\
 R (.tuple #[]) s)) (R (.tuple #[]) p))))))))))))))))):cV q40 [vp a.1 a.2,.agg #[vi b,vi c,vi d,Sl.v e,Sl.v f,Sl.v g],.agg #[vi h,vi i,vi j,vi k,Sl.v l,Sl.v n]] m R:=vcs (dl:=[8,10,11,15,21,23,24,27,33,36,38,42,43]) (A1:=[]) (A2:=[]) (A3:=[]) (args:=[.c (.p a.1 a.2),.agg [.i b,.i c,.i d,.s e,.s f,.s g],.agg [.i h,.i i,.i j,.i k,.s l,.s n]]) Tryz.func101 h'

theorem qlk (a b:Int) (c:Sl) (h' :
 let d:=m.push (.cells (vals [.i a,.i b,.s c]) 151)
 let e:=d.push (.cells (vals [.i 0,.i 0,.s Sl.nil]) 149)
 let f:=e.push (.cells (vals [.i 0,.i 0,.s Sl.nil]) 149)
 eT m.size (eT e.size (let g:=scells f e.size 0 [.i a]
 eT m.size (eT e.size (let h:=scells g e.size 1 [.i b]
 eT m.size (cS q23 [Sl.v c] [e.size,d.size,m.size] h fun i j=>
 eT e.size (let k:=scells j e.size 2 [.s i]
 eT e.size (eT d.size (let l:=scells k d.size 0 [.i a,.i b,.s i]
 eT d.size (R (.agg #[vi a,vi b,Sl.v i]) l)))))))))):cV qbu [.agg #[vi a,vi b,Sl.v c]] m R:=vcs (dl:=[]) (A1:=[]) (A2:=[]) (A3:=[]) (args:=[.agg [.i a,.i b,.s c]]) Tryz.func102 h'

theorem qjw (a b c:Int) (d e f:Sl) (h' :
 let g:=m.push (.cells (vals [.i a,.i b,.i c,.s d,.s e,.s f]) 153)
 let h:=g.push (.cells (vals [.i 0,.i 0,.i 0,.s Sl.nil,.s Sl.nil,.s Sl.nil]) 84)
 let i:=h.push (.cells (vals [.i 0,.i 0,.i 0,.s Sl.nil,.s Sl.nil,.s Sl.nil]) 84)
 eT m.size (eT h.size (let j:=scells i h.size 0 [.i a]
 eT m.size (eT h.size (let k:=scells j h.size 1 [.i b]
 eT m.size (eT h.size (let l:=scells k h.size 2 [.i c]
 eT m.size (cS q23 [Sl.v d] [h.size,g.size,m.size] l fun n o=>
 eT h.size (let p:=scells o h.size 3 [.s n]
 eT m.size (cS q23 [Sl.v e] [h.size,g.size,m.size] p fun q s=>
 eT h.size (let t:=scells s h.size 4 [.s q]
 eT m.size (cS q23 [Sl.v f] [h.size,g.size,m.size] t fun u v=>
 eT h.size (let x:=scells v h.size 5 [.s u]
 eT h.size (eT g.size (let y:=scells x g.size 0 [.i a,.i b,.i c,.s n,.s q,.s u]
 eT g.size (R (.agg #[vi a,vi b,vi c,Sl.v n,Sl.v q,Sl.v u]) y)))))))))))))))):cV qa7 [.agg #[vi a,vi b,vi c,Sl.v d,Sl.v e,Sl.v f]] m R:=vcs (dl:=[]) (A1:=[]) (A2:=[]) (A3:=[]) (args:=[.agg [.i a,.i b,.i c,.s d,.s e,.s f]]) Tryz.func103 h'

end
section
set_option linter.unusedVariables false
set_option maxRecDepth 100000
variable {m:Mem} {R:Value->Mem->Prop}
theorem qfn (a b:Sl) (c d e f:Int) (g h i:Sl) (h' :
 let j:=m.push (.cells (vals [.s a,.s b]) 35)
 let k:=j.push (.cells (vals [.i c,.i d,.i e,.i f,.s g,.s h,.s i]) 55)
 ∃ l:Mem->Prop,
 (eT j.size (iP (decide (c < 0)) (R (vb false) k) (eT j.size (iP (decide (c > 3)) (R (vb false) k) (eT j.size (eT j.size (iP (!((c == 0) == ((i.len:Int) == 0))) (R (vb false) k) (eT j.size (cB q5e [vi d] [j.size,m.size] k fun n o=>
 iP (!n) (R (vb false) o) (eT j.size (iP (d != 0) (eT j.size (iP (c != 0) (R (vb false) o) (eS j.size 55 [.i c,.i d,.i e,.i f,.s g,.s h,.s i] (eS m.size 35 [.s a,.s b] (l o))))) (eS j.size 55 [.i c,.i d,.i e,.i f,.s g,.s h,.s i] (eS m.size 35 [.s a,.s b] (l o)))))))))))))) /\
 (∀ n,l n ->
 eT j.size (iP (decide (f < 0)) (R (vb false) n) (eT j.size (iP (decide (f > 40)) (R (vb false) n) (eT j.size (iP (decide (e < 0)) (R (vb false) n) (eT j.size (eT j.size (iP (decide (e > f)) (R (vb false) n) (eT j.size (eT j.size (iP (decide ((i.len:Int) > (w64 (e+1)))) (R (vb false) n) (eT j.size (cV q6o [Sl.v h] n fun o p=>
 Sam [j.size,m.size] n p /\
 ∃ q:Sl,∃ s:Bool,o=.tuple #[Sl.v q,vb s] /\
 iP (!s) (R (vb false) p) (eT j.size (cB q12 [Sl.v g,.func (.func q65) #[] #[]] [j.size,m.size] p fun t u=>
 iP t (R (vb false) u) (eT j.size (0<=(h.len:Int)/\(h.len:Int)<=(h.len:Int)/\((8:Nat):Int)*(h.len:Int)<=281474976710656/\(h.len:Int)<=9223372036854775807 /\
 let v:=u.push (.cells (vals (zrow [.i 0] (Int.toNat (h.len:Int)))) 3)
 eT j.size (∃ (x:Int->Mem->Prop) (y:Int->Mem->Nat),
 x 0 v /\
 (∀ z A,x z A ->
 iP (decide (z < i.len)) (rg z i (rI A i.blk (i.off+z.toNat*6) fun B=>
 rI A i.blk (i.off+z.toNat*6+1) fun C=>
 rI A i.blk (i.off+z.toNat*6+2) fun D=>
 rS A i.blk (i.off+z.toNat*6+3) fun E=>
 rS A i.blk (i.off+z.toNat*6+4) fun F=>
 rS A i.blk (i.off+z.toNat*6+5) fun G=>
 let H:=A.push (.cells (vals [.i 0,.i 0,.i 0,.s Sl.nil,.s Sl.nil,.s Sl.nil]) 84)
 eT A.size (let J:=scells H A.size 0 [.i B,.i C,.i D,.s E,.s F,.s G]
 eT m.size (eT A.size (cB q7c [.agg #[Sl.v a,Sl.v b],.agg #[vi B,vi C,vi D,Sl.v E,Sl.v F,Sl.v G]] [A.size,j.size,m.size] J fun K L=>
 iP (!K) (R (vb false) L) (∃ M:Mem->Prop,
 (iP (z == 0) (eT A.size (iP (D != 0) (R (vb false) L) (iP (decide (z > 0)) (eT A.size (iP (decide (D < 0)) (R (vb false) L) (eT A.size (eT j.size (rg (w64 (z - 1)) i (rS L i.blk (i.off+Int.toNat (w64 (z - 1))*6+4) fun N=>
 iP (decide (D ≥ N.len)) (R (vb false) L) (eT j.size (rg (w64 (z - 1)) i (rS L i.blk (i.off+Int.toNat (w64 (z - 1))*6+4) fun O=>
 eT A.size (rg D O (rI L O.blk (O.off+D.toNat*1) fun P=>
 iP (P != 0) (R (vb false) L) (eS A.size 84 [.i B,.i C,.i D,.s E,.s F,.s G] (eS j.size 55 [.i c,.i d,.i e,.i f,.s g,.s h,.s i] (eS m.size 35 [.s a,.s b] (M L))))))))))))))) (eS A.size 84 [.i B,.i C,.i D,.s E,.s F,.s G] (eS j.size 55 [.i c,.i d,.i e,.i f,.s g,.s h,.s i] (eS m.size 35 [.s a,.s b] (M L))))))) (iP (decide (z > 0)) (eT A.size (iP (decide (D < 0)) (R (vb false) L) (eT A.size (eT j.size (rg (w64 (z - 1)) i (rS L i.blk (i.off+Int.toNat (w64 (z - 1))*6+4) fun N=>
 iP (decide (D ≥ N.len)) (R (vb false) L) (eT j.size (rg (w64 (z - 1)) i (rS L i.blk (i.off+Int.toNat (w64 (z - 1))*6+4) fun O=>
 eT A.size (rg D O (rI L O.blk (O.off+D.toNat*1) fun P=>
 iP (P != 0) (R (vb false) L) (eS A.size 84 [.i B,.i C,.i D,.s E,.s F,.s G] (eS j.size 55 [.i c,.i d,.i e,.i f,.s g,.s h,.s i] (eS m.size 35 [.s a,.s b] (M L))))))))))))))) (eS A.size 84 [.i B,.i C,.i D,.s E,.s F,.s G] (eS j.size 55 [.i c,.i d,.i e,.i f,.s g,.s h,.s i] (eS m.size 35 [.s a,.s b] (M L)))))) /\
 (∀ N,M N ->
 eT A.size (eT j.size (cB q6n [.agg #[vi B,vi C,vi D,Sl.v E,Sl.v F,Sl.v G],Sl.v h,Sl.v q,Sl.v (Sl.mk u.size 0 (Int.toNat (h.len:Int)) (Int.toNat (h.len:Int)))] [A.size,j.size,m.size] N fun O P=>
 iP (!O) (R (vb false) P) (eS j.size 55 [.i c,.i d,.i e,.i f,.s g,.s h,.s i] (eS m.size 35 [.s a,.s b] (x (w64 (z+1)) P/\y (w64 (z+1)) P < y z A)))))))))))) (eT j.size (∃ (B:Int->Mem->Prop) (C:Int->Mem->Nat),
 B 0 A /\
 (∀ D E,B D E ->
 iP (decide (D < h.len)) (∃ F:Mem->Prop,
 (rg D h (rI E h.blk (h.off+D.toNat*3) fun G=>
 rI E h.blk (h.off+D.toNat*3+1) fun H=>
 rS E h.blk (h.off+D.toNat*3+2) fun J=>
 let K:=E.push (.cells (vals [.i 0,.i 0,.s Sl.nil]) 149)
 eT E.size (let L:=scells K E.size 0 [.i G,.i H,.s J]
 eT E.size (iP (decide (G > 0)) (eT E.size (rg D q (rI L q.blk (q.off+D.toNat*1) fun M=>
 iP (G != M) (R (vb false) L) (eT E.size (iP (decide (G < 0)) (0<=D/\D < ((Sl.mk u.size 0 (Int.toNat (h.len:Int)) (Int.toNat (h.len:Int))).len:Int) /\
 rI L ((Sl.mk u.size 0 (Int.toNat (h.len:Int)) (Int.toNat (h.len:Int))).blk) ((Sl.mk u.size 0 (Int.toNat (h.len:Int)) (Int.toNat (h.len:Int))).off+D.toNat*1) fun N=>
 iP (N != 1) (R (vb false) L) (eS j.size 55 [.i c,.i d,.i e,.i f,.s g,.s h,.s i] (eS m.size 35 [.s a,.s b] (F L)))) (eS j.size 55 [.i c,.i d,.i e,.i f,.s g,.s h,.s i] (eS m.size 35 [.s a,.s b] (F L)))))))) (eT E.size (iP (decide (G < 0)) (0<=D/\D < ((Sl.mk u.size 0 (Int.toNat (h.len:Int)) (Int.toNat (h.len:Int))).len:Int) /\
 rI L ((Sl.mk u.size 0 (Int.toNat (h.len:Int)) (Int.toNat (h.len:Int))).blk) ((Sl.mk u.size 0 (Int.toNat (h.len:Int)) (Int.toNat (h.len:Int))).off+D.toNat*1) fun M=>
 iP (M != 1) (R (vb false) L) (eS j.size 55 [.i c,.i d,.i e,.i f,.s g,.s h,.s i] (eS m.size 35 [.s a,.s b] (F L)))) (eS j.size 55 [.i c,.i d,.i e,.i f,.s g,.s h,.s i] (eS m.size 35 [.s a,.s b] (F L))))))))) /\
 (∀ G,F G ->
 eS j.size 55 [.i c,.i d,.i e,.i f,.s g,.s h,.s i] (eS m.size 35 [.s a,.s b] (B (w64 (D+1)) G/\C (w64 (D+1)) G < C D E)))) (R (vb true) E))))))))))))))))))))))))):cV q7j [.agg #[Sl.v a,Sl.v b],.agg #[vi c,vi d,vi e,vi f,Sl.v g,Sl.v h,Sl.v i]] m R:=vcs (dl:=[14,22]) (A1:=[(10,[(95,.I)]),(20,[(158,.I)])]) (A2:=[(3,[]),(16,[]),(24,[])]) (A3:=[(3,[191,190]),(10,[191,190]),(16,[197,191,190]),(20,[191,190]),(24,[191,190])]) (args:=[.agg [.s a,.s b],.agg [.i c,.i d,.i e,.i f,.s g,.s h,.s i]]) Tryz.func104 h'

theorem qc3 (a:Sl) (h' :
 iP a.isNil (R (Sl.v Sl.nil) m) (let b:=m.push (.cells (vals []) 3)
 appC b 3 [.i 0] 8 (Sl.mk m.size 0 0 0) a fun c d =>
 R (Sl.v c) d)):cV q11 [Sl.v a] m R:=vcs (dl:=[]) (A1:=[]) (A2:=[]) (A3:=[]) (args:=[.c (.s a)]) Tryz.func105 h'

theorem qgs (a:Sl) (h' :
 dS q2z [Sl.v a] m fun b c=>
 ∃ (d:Int->Mem->Prop) (e:Int->Mem->Nat),
 d 0 c /\
 (∀ f g,d f g ->
 iP (decide (f < a.len)) (rg f a (rI g a.blk (a.off+f.toNat*3) fun h=>
 rI g a.blk (a.off+f.toNat*3+1) fun i=>
 rS g a.blk (a.off+f.toNat*3+2) fun j=>
 let k:=g.push (.cells (vals [.i 0,.i 0,.s Sl.nil]) 149)
 eT g.size (let l:=scells k g.size 0 [.i h,.i i,.s j]
 eT g.size (cS q11 [Sl.v j] [g.size] l fun n o=>
 rg f b (wrOk o b.blk (b.off+f.toNat*3+2) 1 /\
 let p:=scells o b.blk (b.off+f.toNat*3+2) [.s n]
 Sam [g.size] o p /\
 d (w64 (f+1)) p/\e (w64 (f+1)) p < e f g))))) (R (Sl.v b) g))):cV q8d [Sl.v a] m R:=vcs (dl:=[]) (A1:=[(3,[(10,.I)])]) (A2:=[]) (A3:=[]) (args:=[.c (.s a)]) Tryz.func106 h'

theorem q5x (a:Sl) (h' :
 iP a.isNil (R (Sl.v Sl.nil) m) (let b:=m.push (.cells (vals []) 84)
 appC b 84 [.i 0,.i 0,.i 0,.s Sl.nil,.s Sl.nil,.s Sl.nil] 96 (Sl.mk m.size 0 0 0) a fun c d =>
 R (Sl.v c) d)):cV q2r [Sl.v a] m R:=vcs (dl:=[]) (A1:=[]) (A2:=[]) (A3:=[]) (args:=[.c (.s a)]) Tryz.func107 h'

theorem ql5 (a b:Int) (c:Sl) (d e:Int) (f:Sl) (h' :
 let g:=m.push (.cells (vals [.i a,.i b,.s c]) 149)
 let h:=g.push (.cells (vals [.i d,.i e,.s f]) 149)
 eT m.size (eT g.size (iP (a != d) (R (vb false) h) (eT m.size (eT g.size (iP (b != e) (R (vb false) h) (eT m.size (eT g.size (cB q22 [Sl.v c,Sl.v f] [g.size,m.size] h fun i j=>
 iP (!i) (R (vb false) j) (R (vb true) j)))))))))):cV qbx [.agg #[vi a,vi b,Sl.v c],.agg #[vi d,vi e,Sl.v f]] m R:=vcs (dl:=[]) (A1:=[]) (A2:=[]) (A3:=[]) (args:=[.agg [.i a,.i b,.s c],.agg [.i d,.i e,.s f]]) Tryz.func108 h'

theorem qkd (a b c:Int) (d e f:Sl) (g h i:Int) (j k l:Sl) (h' :
 let n:=m.push (.cells (vals [.i a,.i b,.i c,.s d,.s e,.s f]) 84)
 let o:=n.push (.cells (vals [.i g,.i h,.i i,.s j,.s k,.s l]) 84)
 eT m.size (eT n.size (iP (a != g) (R (vb false) o) (eT m.size (eT n.size (iP (b != h) (R (vb false) o) (eT m.size (eT n.size (iP (c != i) (R (vb false) o) (eT m.size (eT n.size (cB q22 [Sl.v d,Sl.v j] [n.size,m.size] o fun p q=>
 iP (!p) (R (vb false) q) (eT m.size (eT n.size (cB q22 [Sl.v e,Sl.v k] [n.size,m.size] q fun s t=>
 iP (!s) (R (vb false) t) (eT m.size (eT n.size (cB q22 [Sl.v f,Sl.v l] [n.size,m.size] t fun u v=>
 iP (!u) (R (vb false) v) (R (vb true) v))))))))))))))))))):cV qap [.agg #[vi a,vi b,vi c,Sl.v d,Sl.v e,Sl.v f],.agg #[vi g,vi h,vi i,Sl.v j,Sl.v k,Sl.v l]] m R:=vcs (dl:=[]) (A1:=[]) (A2:=[]) (A3:=[]) (args:=[.agg [.i a,.i b,.i c,.s d,.s e,.s f],.agg [.i g,.i h,.i i,.s j,.s k,.s l]]) Tryz.func109 h'

theorem qkm (a:Sl) (b:Int) (h' :
 iP (decide ((w64 (b - (a.len:Int))) < 0)) (R (vi (-1)) m) (∃ (c:Int->Int->Mem->Prop) (d:Int->Int->Mem->Nat),
 c (w64 (b - (a.len:Int))) 0 m /\
 (∀ e f g,c e f g ->
 iP (decide (f < a.len)) (0<=f/\f < a.len /\
 ∃ h:Sl,gcell g a.blk (a.off+f.toNat*1)=some (Sl.v h) /\
 cV qcy [.agg #[Sl.v h],vi e] g fun i j=>
 ∃ k:Int,i=vi k /\
 iP (decide (k < 0)) (R (vi (-1)) j) (c k (w64 (f+1)) j/\d k (w64 (f+1)) j < d e f g)) (R (vi e) g)))):cV qc6 [Sl.v a,vi b] m R:=vcs (dl:=[]) (A1:=[(5,[(1,.I),(5,.I)])]) (A2:=[]) (A3:=[]) (args:=[.c (.s a),.c (.i b)]) Tryz.func110 h'

theorem qhm (a:Sl) (b:Int) (h' :
 iP (decide ((w64 (b - (a.len:Int))) < 0)) (R (vi (-1)) m) (∃ (c:Int->Int->Mem->Prop) (d:Int->Int->Mem->Nat),
 c (w64 (b - (a.len:Int))) 0 m /\
 (∀ e f g,c e f g ->
 iP (decide (f < a.len)) (0<=f/\f < a.len /\
 ∃ h:Int,gcell g a.blk (a.off+f.toNat*6)=some (vi h) /\
 ∃ i:Int,gcell g a.blk (a.off+f.toNat*6+1)=some (vi i) /\
 ∃ j:Int,gcell g a.blk (a.off+f.toNat*6+2)=some (vi j) /\
 ∃ k:Int,gcell g a.blk (a.off+f.toNat*6+3)=some (vi k) /\
 ∃ l:Sl,gcell g a.blk (a.off+f.toNat*6+4)=some (Sl.v l) /\
 ∃ n:Sl,gcell g a.blk (a.off+f.toNat*6+5)=some (Sl.v n) /\
 cV qa1 [.agg #[vi h,vi i,vi j,vi k,Sl.v l,Sl.v n],vi e] g fun o p=>
 ∃ q:Int,o=vi q /\
 iP (decide (q < 0)) (R (vi (-1)) p) (c q (w64 (f+1)) p/\d q (w64 (f+1)) p < d e f g)) (R (vi e) g)))):cV q99 [Sl.v a,vi b] m R:=vcs (dl:=[]) (A1:=[(5,[(1,.I),(5,.I)])]) (A2:=[]) (A3:=[]) (args:=[.c (.s a),.c (.i b)]) Tryz.func111 h'

theorem qfj (a:Sl) (h' :
 iP (decide ((a.len:Int) > 4)) (R (vb false) m) (∃ (b:Int->Mem->Prop) (c:Int->Mem->Nat),
 b 0 m /\
 (∀ d e,b d e ->
 iP (decide (d < a.len)) (cV q81 [Sl.v a,vi d] e fun f g=>
 ∃ h:Bool,f=vb h /\
 iP (!h) (R (vb false) g) (b (w64 (d+1)) g/\c (w64 (d+1)) g < c d e)) (R (vb true) e)))):cV q74 [Sl.v a] m R:=vcs (dl:=[]) (A1:=[(4,[(3,.I)])]) (A2:=[]) (A3:=[]) (args:=[.c (.s a)]) Tryz.func112 h'

theorem qhz (a b:Sl) (h' :
 ∃ (c:Int->Mem->Prop) (d:Int->Mem->Nat),
 c 0 m /\
 (∀ e f,c e f ->
 iP (decide (e < b.len)) (0<=e/\e < b.len /\
 ∃ g:Int,gcell f b.blk (b.off+e.toNat*1)=some (vi g) /\
 cV q0d [vi g,vi 0,vi (a.len:Int)] f fun h i=>
 ∃ j:Bool,h=vb j /\
 iP (!j) (R (vb false) i) (c (w64 (e+1)) i/\d (w64 (e+1)) i < d e f)) (R (vb true) f))):cV q6e [Sl.v a,Sl.v b] m R:=vcs (dl:=[]) (A1:=[(2,[(5,.I)])]) (A2:=[]) (A3:=[]) (args:=[.c (.s a),.c (.s b)]) Tryz.func113 h'

theorem qgv (a b:Sl) (h' :
 ∃ (c:Int->Mem->Prop) (d:Int->Mem->Nat),
 c 0 m /\
 (∀ e f,c e f ->
 iP (decide (e < b.len)) (0<=e/\e < b.len /\
 ∃ g:Int,gcell f b.blk (b.off+e.toNat*1)=some (vi g) /\
 cV q0d [vi g,vi 0,vi (w64 ((a.len:Int) - 1))] f fun h i=>
 ∃ j:Bool,h=vb j /\
 iP (!j) (R (vb false) i) (0<=e/\e < b.len /\
 ∃ k:Int,gcell i b.blk (b.off+e.toNat*1)=some (vi k) /\
 0<=k/\k < a.len /\
 ∃ l:Int,gcell i a.blk (a.off+k.toNat*1)=some (vi l) /\
 iP (l == 0) (R (vb false) i) (iP (decide (e > 0)) (0<=e/\e < b.len /\
 ∃ n:Int,gcell i b.blk (b.off+e.toNat*1)=some (vi n) /\
 0<=(w64 (e - 1))/\(w64 (e - 1)) < (b.len:Int) /\
 ∃ o:Int,gcell i b.blk (b.off+Int.toNat (w64 (e - 1))*1)=some (vi o) /\
 iP (decide (n<=o)) (R (vb false) i) (c (w64 (e+1)) i/\d (w64 (e+1)) i < d e f)) (c (w64 (e+1)) i/\d (w64 (e+1)) i < d e f)))) (R (vb true) f))):cV q8e [Sl.v a,Sl.v b] m R:=vcs (dl:=[4]) (A1:=[(2,[(5,.I)])]) (A2:=[]) (A3:=[]) (args:=[.c (.s a),.c (.s b)]) Tryz.func114 h'

end
section
set_option linter.unusedVariables false
set_option maxRecDepth 100000
variable {m:Mem} {R:Value->Mem->Prop}
theorem qfi (a b c d:Sl) (e f:Int) (g:Sl) (h:Int) (h' :
 let i:=m.push (.cells (vals [.s a,.s b]) 35)
 let j:=i.push (.cells (vals [.s c,.s d,.i e,.i f,.s g]) 89)
 eT i.size (rg h g (rI j g.blk (g.off+h.toNat*6) fun k=>
 rI j g.blk (g.off+h.toNat*6+1) fun l=>
 rI j g.blk (g.off+h.toNat*6+2) fun n=>
 rI j g.blk (g.off+h.toNat*6+3) fun o=>
 rS j g.blk (g.off+h.toNat*6+4) fun p=>
 rS j g.blk (g.off+h.toNat*6+5) fun q=>
 let s:=j.push (.cells (vals [.i 0,.i 0,.i 0,.i 0,.s Sl.nil,.s Sl.nil]) 86)
 eT j.size (let t:=scells s j.size 0 [.i k,.i l,.i n,.i o,.s p,.s q]
 eT j.size (∃ (u:Int->Mem->Prop) (v:Int->Mem->Nat),
 u 0 t /\
 (∀ x y,u x y ->
 iP (decide (x < p.len)) (eT j.size (rg x p (rI y p.blk (p.off+x.toNat*1) fun z=>
 eT i.size (cB q0d [vi z,vi 0,vi (w64 (f - 1))] [j.size,i.size,m.size] y fun A B=>
 iP (!A) (R (vb false) B) (eS j.size 86 [.i k,.i l,.i n,.i o,.s p,.s q] (eS i.size 89 [.s c,.s d,.i e,.i f,.s g] (eS m.size 35 [.s a,.s b] (u (w64 (x+1)) B/\v (w64 (x+1)) B < v x y)))))))) (∃ z:Mem->Prop,
 (eT j.size (eT i.size (cB q0d [vi l,vi 0,vi (w64 (f - 1))] [j.size,i.size,m.size] y fun A B=>
 iP (!A) (R (vb false) B) (eT j.size (iP (l != 0) (eT j.size (cB qb2 [vi k] [j.size,i.size,m.size] B fun C D=>
 iP (!C) (R (vb false) D) (eT j.size (iP (o != 0) (eT j.size (iP (k != 6) (R (vb false) D) (eT j.size (iP (k != 21) (eT j.size (iP (decide ((q.len:Int) > 0)) (R (vb false) D) (eS j.size 86 [.i k,.i l,.i n,.i o,.s p,.s q] (eS i.size 89 [.s c,.s d,.i e,.i f,.s g] (eS m.size 35 [.s a,.s b] (z D)))))) (eS j.size 86 [.i k,.i l,.i n,.i o,.s p,.s q] (eS i.size 89 [.s c,.s d,.i e,.i f,.s g] (eS m.size 35 [.s a,.s b] (z D)))))))) (eT j.size (iP (k != 21) (eT j.size (iP (decide ((q.len:Int) > 0)) (R (vb false) D) (eS j.size 86 [.i k,.i l,.i n,.i o,.s p,.s q] (eS i.size 89 [.s c,.s d,.i e,.i f,.s g] (eS m.size 35 [.s a,.s b] (z D)))))) (eS j.size 86 [.i k,.i l,.i n,.i o,.s p,.s q] (eS i.size 89 [.s c,.s d,.i e,.i f,.s g] (eS m.size 35 [.s a,.s b] (z D)))))))))) (eT j.size (iP (o != 0) (eT j.size (iP (k != 6) (R (vb false) B) (eT j.size (iP (k != 21) (eT j.size (iP (decide ((q.len:Int) > 0)) (R (vb false) B) (eS j.size 86 [.i k,.i l,.i n,.i o,.s p,.s q] (eS i.size 89 [.s c,.s d,.i e,.i f,.s g] (eS m.size 35 [.s a,.s b] (z B)))))) (eS j.size 86 [.i k,.i l,.i n,.i o,.s p,.s q] (eS i.size 89 [.s c,.s d,.i e,.i f,.s g] (eS m.size 35 [.s a,.s b] (z B)))))))) (eT j.size (iP (k != 21) (eT j.size (iP (decide ((q.len:Int) > 0)) (R (vb false) B) (eS j.size 86 [.i k,.i l,.i n,.i o,.s p,.s q] (eS i.size 89 [.s c,.s d,.i e,.i f,.s g] (eS m.size 35 [.s a,.s b] (z B)))))) (eS j.size 86 [.i k,.i l,.i n,.i o,.s p,.s q] (eS i.size 89 [.s c,.s d,.i e,.i f,.s g] (eS m.size 35 [.s a,.s b] (z B))))))))))))) /\
 (∀ A,z A ->
 eT j.size (iP (k == 0) (iP ((p.len:Int) == 0) (eT j.size (cB q0d [vi n,vi (-999),vi 999] [j.size,i.size,m.size] A fun B C=>
 R (vb B) C)) (R (vb false) A)) (iP ((k == 1) || ((k == 2) || ((k == 3) || ((k == 4) || (k == 11))))) (iP ((p.len:Int) == 2) (eT j.size (R (vb (n == 0)) A)) (R (vb false) A)) (iP ((k == 5) || ((k == 14) || ((k == 15) || ((k == 18) || (k == 23))))) (iP ((p.len:Int) == 1) (eT j.size (R (vb (n == 0)) A)) (R (vb false) A)) (iP (k == 6) (eT m.size (eT j.size (cI q6x [Sl.v a,vi n] [j.size,i.size,m.size] A fun B C=>
 iP (decide (B > 0)) (eT m.size (eT j.size (cS q8s [Sl.v a,vi n] [j.size,i.size,m.size] C fun D E=>
 iP ((p.len:Int) == (D.len:Int)) (eT j.size (eT i.size (cB q0d [vi o,vi 0,vi f] [j.size,i.size,m.size] E fun F G=>
 R (vb F) G))) (R (vb false) E)))) (R (vb false) C)))) (iP ((k == 9) || (k == 24)) (eT m.size (eT j.size (cB q6d [.agg #[Sl.v a,Sl.v b],vi n,vi (p.len:Int),vi 0] [j.size,i.size,m.size] A fun B C=>
 R (vb B) C))) (iP (k == 10) (eT m.size (eT j.size (cB q6d [.agg #[Sl.v a,Sl.v b],vi n,vi (p.len:Int),vi 1] [j.size,i.size,m.size] A fun B C=>
 iP B (eT m.size (eT j.size (rg n b (rS C b.blk (b.off+n.toNat*5+1) fun D=>
 R (vb ((D.len:Int) == 0)) C)))) (R (vb false) C)))) (iP ((k == 16) || (k == 17)) (cB q0d [vi (p.len:Int),vi 1,vi 4] [j.size,i.size,m.size] A fun B C=>
 iP B (eT j.size (R (vb (n == 0)) C)) (R (vb false) C)) (iP (k == 19) (iP ((p.len:Int) == 1) (eT j.size (cB q0d [vi n,vi 0,vi 2] [j.size,i.size,m.size] A fun B C=>
 R (vb B) C)) (R (vb false) A)) (iP (k == 20) (iP ((p.len:Int) == 1) (eT j.size (eT i.size (cB q0d [vi n,vi (w64 (h+1)),vi (w64 ((g.len:Int) - 1))] [j.size,i.size,m.size] A fun B C=>
 R (vb B) C))) (R (vb false) A)) (iP (k == 22) (iP ((p.len:Int) == 0) (eT j.size (eT i.size (cB q0d [vi n,vi (w64 (h+1)),vi (w64 ((g.len:Int) - 1))] [j.size,i.size,m.size] A fun B C=>
 R (vb B) C))) (R (vb false) A)) (iP (k == 21) (eT m.size (eT j.size (cS q7v [Sl.v a,vi n] [j.size,i.size,m.size] A fun B C=>
 iP ((p.len:Int) == 1) (iP (decide ((B.len:Int) > 0)) (eT j.size (eT i.size (cB q77 [Sl.v q,vi (B.len:Int),vi h,vi (g.len:Int)] [j.size,i.size,m.size] C fun D E=>
 R (vb D) E))) (R (vb false) C)) (R (vb false) C)))) (R (vb false) A)))))))))))))))))))):cV q7a [.agg #[Sl.v a,Sl.v b],.agg #[Sl.v c,Sl.v d,vi e,vi f,Sl.v g],vi h] m R:=vcs (dl:=[6]) (A1:=[(4,[(9,.I)])]) (A2:=[(10,[])]) (A3:=[(4,[241,238,237]),(10,[241,238,237])]) (args:=[.agg [.s a,.s b],.agg [.s c,.s d,.i e,.i f,.s g],.c (.i h)]) Tryz.func115 h'

theorem qj4 (a b:Sl) (c d:Int) (e f:Sl) (h' :
 let g:=m.push (.cells (vals [.s a,.s b]) 35)
 let h:=g.push (.cells (vals [.i 0,.i 0,.i 0,.s Sl.nil,.s Sl.nil,.s Sl.nil]) 84)
 eT m.size (rg c b (rI h b.blk (b.off+c.toNat*5+3) fun i=>
 cS q5c [vi i] [g.size,m.size] h fun j k=>
 cS q5c [vi i] [g.size,m.size] k fun l n=>
 ∃ o:List Ce,o.length=Nat.min e.len j.len*1/\rowIs n e.blk e.off o/\wrOk n j.blk j.off o.length /\
 let p:=scells n j.blk j.off o
 Sam [g.size,m.size] n p /\
 ∃ q:List Ce,q.length=Nat.min f.len l.len*1/\rowIs p f.blk f.off q/\wrOk p l.blk l.off q.length /\
 let s:=scells p l.blk l.off q
 Sam [g.size,m.size] p s /\
 cS q5c [vi i] [g.size,m.size] s fun t u=>
 eT g.size (let v:=scells u g.size 0 [.i c,.i 0,.i d,.s j,.s l,.s t]
 eT g.size (R (.agg #[vi c,vi 0,vi d,Sl.v j,Sl.v l,Sl.v t]) v))))):cV q4j [.agg #[Sl.v a,Sl.v b],vi c,vi d,Sl.v e,Sl.v f] m R:=vcs (dl:=[]) (A1:=[]) (A2:=[]) (A3:=[]) (args:=[.agg [.s a,.s b],.c (.i c),.c (.i d),.c (.s e),.c (.s f)]) Tryz.func116 h'

theorem qlr (a:Sl) (h' :
 0<=(a.len:Int)/\(a.len:Int)<=(a.len:Int)/\((24:Nat):Int)*(a.len:Int)<=281474976710656/\(a.len:Int)<=9223372036854775807 /\
 let b:=m.push (.cells (vals (zrow [.s Sl.nil] (Int.toNat (a.len:Int)))) 201)
 ∃ (c:Int->Mem->Prop) (d:Int->Mem->Nat),
 c 0 b /\
 (∀ e f,c e f ->
 iP (decide (e < a.len)) (0<=e/\e < a.len /\
 ∃ g:Sl,gcell f a.blk (a.off+e.toNat*1)=some (Sl.v g) /\
 cV qd3 [.agg #[Sl.v g]] f fun h i=>
 ∃ j:Sl,h=.agg #[Sl.v j] /\
 0<=e/\e < ((Sl.mk m.size 0 (Int.toNat (a.len:Int)) (Int.toNat (a.len:Int))).len:Int) /\
 wrOk i ((Sl.mk m.size 0 (Int.toNat (a.len:Int)) (Int.toNat (a.len:Int))).blk) ((Sl.mk m.size 0 (Int.toNat (a.len:Int)) (Int.toNat (a.len:Int))).off+e.toNat*1) 1 /\
 let k:=scells i ((Sl.mk m.size 0 (Int.toNat (a.len:Int)) (Int.toNat (a.len:Int))).blk) ((Sl.mk m.size 0 (Int.toNat (a.len:Int)) (Int.toNat (a.len:Int))).off+e.toNat*1) [.s j]
 c (w64 (e+1)) k/\d (w64 (e+1)) k < d e f) (R (Sl.v (Sl.mk m.size 0 (Int.toNat (a.len:Int)) (Int.toNat (a.len:Int)))) f))):cV qc5 [Sl.v a] m R:=vcs (dl:=[]) (A1:=[(3,[(4,.I)])]) (A2:=[]) (A3:=[]) (args:=[.c (.s a)]) Tryz.func117 h'

theorem qhu (a:Sl) (h' :
 0<=(a.len:Int)/\(a.len:Int)<=(a.len:Int)/\((80:Nat):Int)*(a.len:Int)<=281474976710656/\(a.len:Int)<=9223372036854775807 /\
 let b:=m.push (.cells (vals (zrow [.i 0,.i 0,.i 0,.i 0,.s Sl.nil,.s Sl.nil] (Int.toNat (a.len:Int)))) 86)
 ∃ (c:Int->Mem->Prop) (d:Int->Mem->Nat),
 c 0 b /\
 (∀ e f,c e f ->
 iP (decide (e < a.len)) (0<=e/\e < a.len /\
 ∃ g:Int,gcell f a.blk (a.off+e.toNat*6)=some (vi g) /\
 ∃ h:Int,gcell f a.blk (a.off+e.toNat*6+1)=some (vi h) /\
 ∃ i:Int,gcell f a.blk (a.off+e.toNat*6+2)=some (vi i) /\
 ∃ j:Int,gcell f a.blk (a.off+e.toNat*6+3)=some (vi j) /\
 ∃ k:Sl,gcell f a.blk (a.off+e.toNat*6+4)=some (Sl.v k) /\
 ∃ l:Sl,gcell f a.blk (a.off+e.toNat*6+5)=some (Sl.v l) /\
 cV qaf [.agg #[vi g,vi h,vi i,vi j,Sl.v k,Sl.v l]] f fun n o=>
 ∃ p:Int,∃ q:Int,∃ s:Int,∃ t:Int,∃ u:Sl,∃ v:Sl,n=.agg #[vi p,vi q,vi s,vi t,Sl.v u,Sl.v v] /\
 0<=e/\e < ((Sl.mk m.size 0 (Int.toNat (a.len:Int)) (Int.toNat (a.len:Int))).len:Int) /\
 wrOk o ((Sl.mk m.size 0 (Int.toNat (a.len:Int)) (Int.toNat (a.len:Int))).blk) ((Sl.mk m.size 0 (Int.toNat (a.len:Int)) (Int.toNat (a.len:Int))).off+e.toNat*6) 6 /\
 let x:=scells o ((Sl.mk m.size 0 (Int.toNat (a.len:Int)) (Int.toNat (a.len:Int))).blk) ((Sl.mk m.size 0 (Int.toNat (a.len:Int)) (Int.toNat (a.len:Int))).off+e.toNat*6) [.i p,.i q,.i s,.i t,.s u,.s v]
 c (w64 (e+1)) x/\d (w64 (e+1)) x < d e f) (R (Sl.v (Sl.mk m.size 0 (Int.toNat (a.len:Int)) (Int.toNat (a.len:Int)))) f))):cV q92 [Sl.v a] m R:=vcs (dl:=[]) (A1:=[(3,[(4,.I)])]) (A2:=[]) (A3:=[]) (args:=[.c (.s a)]) Tryz.func118 h'

theorem qgt (a b:Sl) (h' :
 dB q7b [Sl.v a] m fun c d=>
 iP (!c) (R (vb false) d) (iP (decide ((b.len:Int) < 1)) (R (vb false) d) (iP (decide ((b.len:Int) > 4)) (R (vb false) d) (rg 0 b (rS d b.blk (b.off+Int.toNat 0*3) fun e=>
 iP (decide ((e.len:Int) > 0)) (R (vb false) d) (rg 0 b (rI d b.blk (b.off+Int.toNat 0*3+2) fun f=>
 iP (f != 0) (R (vb false) d) (∃ (g:Int->Mem->Prop) (h:Int->Mem->Nat),
 g 0 d /\
 (∀ i j,g i j ->
 iP (decide (i < b.len)) (rg i b (rS j b.blk (b.off+i.toNat*3) fun k=>
 rS j b.blk (b.off+i.toNat*3+1) fun l=>
 rI j b.blk (b.off+i.toNat*3+2) fun n=>
 let o:=j.push (.cells (vals [.s Sl.nil,.s Sl.nil,.i 0]) 183)
 eT j.size (let p:=scells o j.size 0 [.s k,.s l,.i n]
 eT j.size (iP (decide ((k.len:Int) > 3)) (R (vb false) p) (eT j.size (cB q6a [Sl.v a,Sl.v k] [j.size] p fun q s=>
 iP (!q) (R (vb false) s) (eT j.size (cB q4v [Sl.v a,vi n] [j.size] s fun t u=>
 iP (!t) (R (vb false) u) (eT j.size (∃ (v:Int->Mem->Prop) (x:Int->Mem->Nat),
 v 0 u /\
 (∀ y z,v y z ->
 iP (decide (y < l.len)) (rg y l (rI z l.blk (l.off+y.toNat*1) fun A=>
 iP (decide (A < 0)) (R (vb false) z) (eT j.size (iP (decide (A ≥ k.len)) (R (vb false) z) (eT j.size (rg A k (rI z k.blk (k.off+A.toNat*1) fun B=>
 iP (B == 0) (R (vb false) z) (iP (decide (y > 0)) (eT j.size (rg (w64 (y - 1)) l (rI z l.blk (l.off+Int.toNat (w64 (y - 1))*1) fun C=>
 iP (decide (A<=C)) (R (vb false) z) (eS j.size 183 [.s k,.s l,.i n] (v (w64 (y+1)) z/\x (w64 (y+1)) z < x y z))))) (eS j.size 183 [.s k,.s l,.i n] (v (w64 (y+1)) z/\x (w64 (y+1)) z < x y z)))))))))) (g (w64 (i+1)) z/\h (w64 (i+1)) z < h i j)))))))))))) (R (vb true) j)))))))))):cV q8c [Sl.v a,Sl.v b] m R:=vcs (dl:=[]) (A1:=[(4,[(39,.I)]),(9,[(64,.I)])]) (A2:=[]) (A3:=[(9,[108])]) (args:=[.c (.s a),.c (.s b)]) Tryz.func119 h'

theorem qe0 (a:Int) (h' :
 iP (decide (a ≥ 0)) (iP (decide (a<=11)) (R (vb true) m) (iP (a == 18) (R (vb true) m) (R (vb (a == 19)) m))) (iP (a == 18) (R (vb true) m) (R (vb (a == 19)) m))):cV q4p [vi a] m R:=vcs (dl:=[]) (A1:=[]) (A2:=[]) (A3:=[]) (args:=[.c (.i a)]) Tryz.func120 h'

theorem q7l (a:Int) (b c:Nat × Nat) (h' :
 ∃ d:Int,gcell m b.1 b.2=some (vi d) /\
 iP (decide (a > d)) (∃ e:Sl,gcell m c.1 (c.2+4)=some (Sl.v e) /\
 R (vb (decide (a < e.len))) m) (R (vb false) m)):cV q0v [vi a,vp b.1 b.2,vp c.1 c.2] m R:=vcs (dl:=[]) (A1:=[]) (A2:=[]) (A3:=[]) (args:=[.c (.i a),.c (.p b.1 b.2),.c (.p c.1 c.2)]) Tryz.func121 h'

theorem q7t (a:Sl) (b:Fn × Array Value × Array Value) (h' :
 cV q49 [Sl.v a,.func b.1 b.2.1 b.2.2] m fun c d=>
 ∃ e:Int,c=vi e /\
 R (vb (decide (e ≥ 0))) d):cV q12 [Sl.v a,.func b.1 b.2.1 b.2.2] m R:=vcs (dl:=[]) (A1:=[]) (A2:=[]) (A3:=[]) (args:=[.c (.s a),.c (.fv b)]) Tryz.func122 h'

theorem q7h (a:Int) (b:Nat × Nat) (h' :
 ∃ c:Fn × Array Value × Array Value,gcell m b.1 b.2=some (.func c.1 c.2.1 c.2.2) /\
 ∃ g,c.1=.func g/\GL.elem g=true /\
 cV g (c.2.1.toList ++ [vi a] ++ c.2.2.toList) m fun d e=>
 ∃ f:Bool,d=vb f /\
 R (vb (!f)) e):cV q1j [vi a,vp b.1 b.2] m R:=vcs (dl:=[]) (A1:=[]) (A2:=[]) (A3:=[]) (args:=[.c (.i a),.c (.p b.1 b.2)]) Tryz.func123 h'

theorem q9o (a b:Sl) (c d e f:Int) (h i:Sl) (j:Fn × Array Value × Array Value) (h' :
 let k:=m.push (.cells (vals [.s a,.s b]) 127)
 let l:=k.push (.cells (vals [.i c,.i d,.i e,.i f,.s h,.s i]) 86)
 eT k.size (iP (c == 0) (eT k.size (iP (decide (e ≥ (-999))) (eT k.size (R (vb (decide (e<=999))) l)) (R (vb false) l))) (iP (c == 6) (eT k.size (iP (decide (e ≥ 0)) (eT k.size (eT m.size (cI q3j [Sl.v a] [k.size,m.size] l fun n o=>
 gk o l k.size 2 /\
 R (vb (decide (e < n))) o))) (R (vb false) l))) (iP ((c == 9) || (c == 24)) (eT k.size (iP (decide (e ≥ 0)) (eT k.size (eT m.size (R (vb (decide (e < b.len))) l))) (R (vb false) l))) (iP (c == 10) (eT k.size (iP (decide (e ≥ 0)) (eT k.size (eT m.size (iP (decide (e < b.len)) (eT m.size (eT k.size (rg e b (rS l b.blk (b.off+e.toNat*3+1) fun n=>
 R (vb ((n.len:Int) == 0)) l)))) (R (vb false) l)))) (R (vb false) l))) (iP (c == 19) (eT k.size (iP (decide (e ≥ 0)) (eT k.size (R (vb (decide (e < 3))) l)) (R (vb false) l))) (iP ((c == 20) || (c == 22)) (eT k.size (∃ g,j.1=.func g/\GL.elem g=true /\
 cB g (j.2.1.toList ++ [vi e] ++ j.2.2.toList) [k.size,m.size] l fun n o=>
 R (vb n) o)) (iP (c == 21) (eT m.size (eT k.size (cS q5y [Sl.v a,vi e] [k.size,m.size] l fun n o=>
 iP (decide ((n.len:Int) > 0)) (eT k.size (R (vb ((i.len:Int) == (n.len:Int))) o)) (R (vb false) o)))) (eT k.size (R (vb (e == 0)) l)))))))))):cV q2e [.agg #[Sl.v a,Sl.v b],.agg #[vi c,vi d,vi e,vi f,Sl.v h,Sl.v i],.func j.1 j.2.1 j.2.2] m R:=vcs (dl:=[5]) (A1:=[]) (A2:=[]) (A3:=[]) (args:=[.agg [.s a,.s b],.agg [.i c,.i d,.i e,.i f,.s h,.s i],.c (.fv j)]) Tryz.func124 h'

theorem qal (a b:Sl) (c d e f:Int) (g h:Sl) (h' :
 let i:=m.push (.cells (vals [.s a,.s b]) 127)
 let j:=i.push (.cells (vals [.i c,.i d,.i e,.i f,.s g,.s h]) 86)
 eT i.size (iP ((c == 0) || (c == 22)) (R (.tuple #[vi 0,vi 0]) j) (iP ((c == 1) || ((c == 2) || ((c == 3) || ((c == 4) || (c == 11))))) (R (.tuple #[vi 2,vi 2]) j) (iP (c == 6) (eT m.size (eT i.size (cS q9t [Sl.v a,vi e] [i.size,m.size] j fun k l=>
 R (.tuple #[vi (k.len:Int),vi (k.len:Int)]) l))) (iP ((c == 9) || (c == 24)) (eT m.size (eT i.size (rg e b (rS j b.blk (b.off+e.toNat*3) fun k=>
 R (.tuple #[vi (k.len:Int),vi (k.len:Int)]) j)))) (iP (c == 10) (eT m.size (eT i.size (rg e b (rS j b.blk (b.off+e.toNat*3) fun k=>
 R (.tuple #[vi (w64 ((k.len:Int) - 1)),vi (w64 ((k.len:Int) - 1))]) j)))) (iP ((c == 16) || (c == 17)) (R (.tuple #[vi 1,vi 4]) j) (R (.tuple #[vi 1,vi 1]) j)))))))):cV q2p [.agg #[Sl.v a,Sl.v b],.agg #[vi c,vi d,vi e,vi f,Sl.v g,Sl.v h]] m R:=vcs (dl:=[]) (A1:=[]) (A2:=[]) (A3:=[]) (args:=[.agg [.s a,.s b],.agg [.i c,.i d,.i e,.i f,.s g,.s h]]) Tryz.func125 h'

theorem qbc (a:Nat × Nat) (b c d e:Int) (f g:Sl) (h' :
 let h:=m.push (.cells (vals [.i b,.i c,.i d,.i e,.s f,.s g]) 86)
 eT m.size (iP ((b == 15) || ((b == 6) || ((b == 10) || ((b == 11) || ((b == 18) || (b == 23)))))) (eT m.size (R (.tuple #[Sl.v f,Sl.v Sl.nil]) h)) (iP ((b == 16) || (b == 17)) (eT m.size ((0:Int)<=(0:Int)/\(0:Int)<=(1:Int)/\1<=(f.cap:Int) /\
 R (.tuple #[Sl.v (Sl.cut f (Int.toNat 0) (Int.toNat 1) 1),Sl.v Sl.nil]) h)) (iP ((b == 9) || (b == 24)) (eT m.size (∃ (i:Sl->Sl->Int->Mem->Prop) (j:Sl->Sl->Int->Mem->Nat),
 i Sl.nil Sl.nil 0 h /\
 (∀ k l n o,i k l n o ->
 iP (decide (n < f.len)) (rg n f (rI o f.blk (f.off+n.toNat*1) fun p=>
 rS o a.1 (a.2+1) fun q=>
 eT m.size (rg d q (rS o q.blk (q.off+d.toNat*5+1) fun s=>
 cB q2n [Sl.v s,vi n] [m.size] o fun t u=>
 iP t (let v:=u.push (.cells (vals [.i p]) 3)
 appC v 3 [.i 0] 8 l (Sl.mk u.size 0 1 1) fun x y =>
 Sam [m.size] v y /\
 eS m.size 86 [.i b,.i c,.i d,.i e,.s f,.s g] (i k x (w64 (n+1)) y/\j k x (w64 (n+1)) y < j k l n o)) (let v:=u.push (.cells (vals [.i p]) 3)
 appC v 3 [.i 0] 8 k (Sl.mk u.size 0 1 1) fun x y =>
 Sam [m.size] v y /\
 eS m.size 86 [.i b,.i c,.i d,.i e,.s f,.s g] (i x l (w64 (n+1)) y/\j x l (w64 (n+1)) y < j k l n o)))))) (R (.tuple #[Sl.v k,Sl.v l]) o)))) (R (.tuple #[Sl.v Sl.nil,Sl.v Sl.nil]) h))))):cV q3p [vp a.1 a.2,.agg #[vi b,vi c,vi d,vi e,Sl.v f,Sl.v g]] m R:=vcs (dl:=[17]) (A1:=[(15,[(4,.S),(5,.S),(31,.I)])]) (A2:=[]) (A3:=[(15,[62])]) (args:=[.c (.p a.1 a.2),.agg [.i b,.i c,.i d,.i e,.s f,.s g]]) Tryz.func126 h'

end
section
set_option linter.unusedVariables false
set_option maxRecDepth 100000
variable {m:Mem} {R:Value->Mem->Prop}
theorem qcg (a:Nat × Nat) (b:Int) (h' :
 ∃ c:Sl,gcell m a.1 (a.2+3+5)=some (Sl.v c) /\
 cV q24 [Sl.v c,vi b] m fun d e=>
 ∃ f:Int,∃ g:Bool,d=.tuple #[vi f,vb g] /\
 R (vb g) e):cV q5g [vp a.1 a.2,vi b] m R:=vcs (dl:=[]) (A1:=[]) (A2:=[]) (A3:=[]) (args:=[.c (.p a.1 a.2),.c (.i b)]) Tryz.func127 h'

theorem qdg (a:Int) (b:Nat × Nat) (h' :
 ∃ c:Nat × Nat,gcell m b.1 b.2=some (vp c.1 c.2) /\
 ∃ d:Sl,gcell m c.1 (c.2+3)=some (Sl.v d) /\
 0<=a/\a < d.len /\
 ∃ e:Int,gcell m d.blk (d.off+a.toNat*1)=some (vi e) /\
 R (vb (decide (e ≥ 1000))) m):cV q4e [vi a,vp b.1 b.2] m R:=vcs (dl:=[]) (A1:=[]) (A2:=[]) (A3:=[]) (args:=[.c (.i a),.c (.p b.1 b.2)]) Tryz.func128 h'

theorem qif (a:Sl) (h' :
 cV q12 [Sl.v a,.func (.func q89) #[] #[]] m fun b c=>
 ∃ d:Bool,b=vb d /\
 R (vb (!d)) c):cV q71 [Sl.v a] m R:=vcs (dl:=[]) (A1:=[]) (A2:=[]) (A3:=[]) (args:=[.c (.s a)]) Tryz.func129 h'

theorem qb9 (a b:Nat × Nat) (c d e f:Int) (g h:Sl) (h' :
 let i:=m.push (.cells (vals [.i c,.i d,.i e,.i f,.s g,.s h]) 86)
 rS i a.1 (a.2+3+5) fun j=>
 rS i b.1 (b.2+3) fun k=>
 eT m.size (rg 0 g (rI i g.blk (g.off+Int.toNat 0*1) fun l=>
 rg l k (rI i k.blk (k.off+l.toNat*1) fun n=>
 cV q24 [Sl.v j,vi n] i fun o p=>
 Sam [m.size] i p /\
 ∃ q:Int,∃ s:Bool,o=.tuple #[vi q,vb s] /\
 iP (!s) (R (vb false) p) (rS p a.1 (a.2+3+5) fun t=>
 rg q t (rI p t.blk (t.off+q.toNat*3) fun u=>
 rI p t.blk (t.off+q.toNat*3+1) fun v=>
 rS p t.blk (t.off+q.toNat*3+2) fun x=>
 let y:=p.push (.cells (vals [.i 0,.i 0,.s Sl.nil]) 149)
 eT p.size (let z:=scells y p.size 0 [.i u,.i v,.s x]
 eT p.size (rI z a.1 (a.2+2) fun A=>
 iP (decide ((w64 (v - A)) < 0)) (R (vb false) z) (rS z a.1 (a.2+1) fun B=>
 iP (decide ((w64 (v - A)) ≥ (B.len:Int))) (R (vb false) z) (rS z a.1 (a.2+1) fun C=>
 rg (w64 (v - A)) C (rS z C.blk (C.off+Int.toNat (w64 (v - A))*5) fun D=>
 rS z C.blk (C.off+Int.toNat (w64 (v - A))*5+1) fun E=>
 rI z C.blk (C.off+Int.toNat (w64 (v - A))*5+2) fun F=>
 rI z C.blk (C.off+Int.toNat (w64 (v - A))*5+3) fun G=>
 rS z C.blk (C.off+Int.toNat (w64 (v - A))*5+4) fun H=>
 let J:=z.push (.cells (vals [.s Sl.nil,.s Sl.nil,.i 0,.i 0,.s Sl.nil]) 89)
 eT z.size (let K:=scells J z.size 0 [.s D,.s E,.i F,.i G,.s H]
 eT z.size (iP ((E.len:Int) == 0) (eT z.size (eT p.size (iP ((D.len:Int) == (w64 ((x.len:Int)+1))) (eT p.size (cB q29 [vp a.1 a.2,.agg #[vi u,vi v,Sl.v x]] [z.size,p.size,m.size] K fun L M=>
 R (vb L) M)) (R (vb false) K)))) (R (vb false) K)))))))))))))):cV q4t [vp a.1 a.2,vp b.1 b.2,.agg #[vi c,vi d,vi e,vi f,Sl.v g,Sl.v h]] m R:=vcs (dl:=[1,5]) (A1:=[]) (A2:=[]) (A3:=[]) (args:=[.c (.p a.1 a.2),.c (.p b.1 b.2),.agg [.i c,.i d,.i e,.i f,.s g,.s h]]) Tryz.func130 h'

theorem q9y (a b:Nat × Nat) (c d e f:Int) (g h:Sl) (h' :
 let i:=m.push (.cells (vals [.i c,.i d,.i e,.i f,.s g,.s h]) 86)
 rS i a.1 (a.2+3+5) fun j=>
 rS i b.1 (b.2+3) fun k=>
 eT m.size (rg 0 g (rI i g.blk (g.off+Int.toNat 0*1) fun l=>
 rg l k (rI i k.blk (k.off+l.toNat*1) fun n=>
 cV q24 [Sl.v j,vi n] i fun o p=>
 Sam [m.size] i p /\
 ∃ q:Int,∃ s:Bool,o=.tuple #[vi q,vb s] /\
 iP (!s) (R (vb false) p) (rS p a.1 (a.2+3+5) fun t=>
 rg q t (rI p t.blk (t.off+q.toNat*3) fun u=>
 rI p t.blk (t.off+q.toNat*3+1) fun v=>
 rS p t.blk (t.off+q.toNat*3+2) fun x=>
 let y:=p.push (.cells (vals [.i 0,.i 0,.s Sl.nil]) 149)
 eT p.size (let z:=scells y p.size 0 [.i u,.i v,.s x]
 eT m.size (iP (c == 14) (eT p.size (R (vb (decide (u < 999999))) z)) (iP (c == 19) (eT m.size (eT p.size (R (vb (decide (e < x.len))) z))) (iP (c == 21) (rS z a.1 a.2 fun A=>
 eT m.size (eT p.size (cS q5y [Sl.v A,vi e] [p.size,m.size] z fun B C=>
 gk C z p.size 1 /\
 cB q2n [Sl.v B,vi v] [p.size,m.size] C fun D E=>
 R (vb D) E))) (eT m.size ((0:Int)<=(1:Int)/\1<=(g.len:Int)/\(g.len:Int)<=(g.cap:Int) /\
 ∃ (A:Sl->Int->Mem->Prop) (B:Sl->Int->Mem->Nat),
 A Sl.nil 0 z /\
 (∀ C D E,A C D E ->
 iP (decide (D < ((Sl.cut g (Int.toNat 1) (Int.toNat (g.len:Int)) 1).len:Int))) (0<=D/\D < ((Sl.cut g (Int.toNat 1) (Int.toNat (g.len:Int)) 1).len:Int) /\
 rI E ((Sl.cut g (Int.toNat 1) (Int.toNat (g.len:Int)) 1).blk) ((Sl.cut g (Int.toNat 1) (Int.toNat (g.len:Int)) 1).off+D.toNat*1) fun F=>
 rS E b.1 (b.2+3) fun G=>
 rg F G (rI E G.blk (G.off+F.toNat*1) fun H=>
 let J:=E.push (.cells (vals [.i H]) 3)
 appC J 3 [.i 0] 8 C (Sl.mk E.size 0 1 1) fun K L =>
 Sam [p.size,m.size] J L /\
 eS p.size 149 [.i u,.i v,.s x] (eS m.size 86 [.i c,.i d,.i e,.i f,.s g,.s h] (A K (w64 (D+1)) L/\B K (w64 (D+1)) L < B C D E)))) (eT p.size (cS q7i [Sl.v x] [p.size,m.size] E fun F G=>
 cB q52 [Sl.v F,Sl.v C] [p.size,m.size] G fun H J=>
 iP (!H) (R (vb false) J) (eT m.size (iP (c == 17) (rS J b.1 (b.2+5) fun K=>
 eT m.size (rg 0 g (rI J g.blk (g.off+Int.toNat 0*1) fun L=>
 rg L K (rI J K.blk (K.off+L.toNat*1) fun M=>
 iP (M != 0) (R (vb false) J) (eT p.size (cB q29 [vp a.1 a.2,.agg #[vi u,vi v,Sl.v x]] [p.size,m.size] J fun N O=>
 R (vb N) O)))))) (eT p.size (cB q29 [vp a.1 a.2,.agg #[vi u,vi v,Sl.v x]] [p.size,m.size] J fun K L=>
 R (vb K) L))))))))))))))))))):cV q4f [vp a.1 a.2,vp b.1 b.2,.agg #[vi c,vi d,vi e,vi f,Sl.v g,Sl.v h]] m R:=vcs (dl:=[1,11,18]) (A1:=[(14,[(10,.S),(74,.I)])]) (A2:=[]) (A3:=[(14,[125,121])]) (args:=[.c (.p a.1 a.2),.c (.p b.1 b.2),.agg [.i c,.i d,.i e,.i f,.s g,.s h]]) Tryz.func131 h'

theorem qc2 (a b:Nat × Nat) (c d e f:Int) (g h:Sl) (h' :
 let i:=m.push (.cells (vals [.i c,.i d,.i e,.i f,.s g,.s h]) 86)
 eT m.size (eT m.size (cS q2q [vp b.1 b.2,Sl.v g] [m.size] i fun j k=>
 eT m.size (iP (c == 0) (eT m.size (cV q1m [vp b.1 b.2,vi d,vi e,vi 0] k fun l n=>
 Sam [m.size] k n /\
 R (.tuple #[]) n)) (iP (c == 5) (rg 0 j (rI k j.blk (j.off+Int.toNat 0*1) fun l=>
 rS k a.1 (a.2+3+4) fun n=>
 let o:=k.push (.cells (vals [.i l]) 3)
 appC o 3 [.i 0] 8 n (Sl.mk k.size 0 1 1) fun p q =>
 Sam [m.size] o q /\
 wrOk q a.1 (a.2+3+4) 1 /\
 let s:=scells q a.1 (a.2+3+4) [.s p]
 Sam [m.size] q s /\
 eT m.size (cV q1m [vp b.1 b.2,vi d,vi l,vi 0] s fun t u=>
 Sam [m.size] s u /\
 R (.tuple #[]) u))) (eT m.size (rg 0 j (rI k j.blk (j.off+Int.toNat 0*1) fun l=>
 rg 1 j (rI k j.blk (j.off+Int.toNat 1*1) fun n=>
 cI qen [vi c,vi l,vi n] [m.size] k fun o p=>
 eT m.size (cV q1m [vp b.1 b.2,vi d,vi o,vi 0] p fun q s=>
 Sam [m.size] p s /\
 R (.tuple #[]) s)))))))))):cV q59 [vp a.1 a.2,vp b.1 b.2,.agg #[vi c,vi d,vi e,vi f,Sl.v g,Sl.v h]] m R:=vcs (dl:=[4]) (A1:=[]) (A2:=[]) (A3:=[]) (args:=[.c (.p a.1 a.2),.c (.p b.1 b.2),.agg [.i c,.i d,.i e,.i f,.s g,.s h]]) Tryz.func132 h'

theorem qgj (a:Nat × Nat) (b c d:Int) (h' :
 ∃ e:Sl,gcell m a.1 (a.2+3)=some (Sl.v e) /\
 ∃ f:Sl,gcell m a.1 (a.2+4)=some (Sl.v f) /\
 0<=b/\b < e.len /\
 wrOk m e.blk (e.off+b.toNat*1) 1 /\
 let g:=scells m e.blk (e.off+b.toNat*1) [.i c]
 0<=b/\b < f.len /\
 wrOk g f.blk (f.off+b.toNat*1) 1 /\
 let h:=scells g f.blk (f.off+b.toNat*1) [.i d]
 R (.tuple #[]) h):cV q1m [vp a.1 a.2,vi b,vi c,vi d] m R:=vcs (dl:=[0]) (A1:=[]) (A2:=[]) (A3:=[]) (args:=[.c (.p a.1 a.2),.c (.i b),.c (.i c),.c (.i d)]) Tryz.func133 h'

theorem qaq (a b:Nat × Nat) (c d e f:Int) (g h:Sl) (h' :
 let i:=m.push (.cells (vals [.i c,.i d,.i e,.i f,.s g,.s h]) 86)
 eT m.size (cS q2q [vp b.1 b.2,Sl.v g] [m.size] i fun j k=>
 eT m.size (iP (f == 0) (eT m.size (cI q2u [vp a.1 a.2,vi e,Sl.v j] [m.size] k fun l n=>
 R (vi l) n)) (rS k b.1 (b.2+5) fun l=>
 eT m.size (rg (w64 (f - 1)) l (rI k l.blk (l.off+Int.toNat (w64 (f - 1))*1) fun n=>
 iP (n == 0) (eT m.size (cI q2u [vp a.1 a.2,vi e,Sl.v j] [m.size] k fun o p=>
 R (vi o) p)) (rS k b.1 (b.2+5) fun o=>
 eT m.size (rg (w64 (f - 1)) o (rI k o.blk (o.off+Int.toNat (w64 (f - 1))*1) fun p=>
 rS k b.1 (b.2+5) fun q=>
 eT m.size (rg (w64 (f - 1)) q (wrOk k q.blk (q.off+Int.toNat (w64 (f - 1))*1) 1 /\
 let s:=scells k q.blk (q.off+Int.toNat (w64 (f - 1))*1) [.i 0]
 Sam [m.size] k s /\
 rS s a.1 (a.2+3+5) fun t=>
 eT m.size (rg (w64 (p - 1000)) t (wrOk s t.blk (t.off+Int.toNat (w64 (p - 1000))*3) 3 /\
 let u:=scells s t.blk (t.off+Int.toNat (w64 (p - 1000))*3) [.i 1,.i e,.s j]
 Sam [m.size] s u /\
 R (vi p) u))))))))))))):cV q4l [vp a.1 a.2,vp b.1 b.2,.agg #[vi c,vi d,vi e,vi f,Sl.v g,Sl.v h]] m R:=vcs (dl:=[2,4,5,6]) (A1:=[]) (A2:=[]) (A3:=[]) (args:=[.c (.p a.1 a.2),.c (.p b.1 b.2),.agg [.i c,.i d,.i e,.i f,.s g,.s h]]) Tryz.func134 h'

theorem qdm (a:Nat × Nat) (b:Int) (c:Sl) (h' :
 rS m a.1 (a.2+3+5) fun d=>
 let e:=m.push (.cells (vals [.s Sl.nil]) 193)
 eT m.size (let f:=scells e m.size 0 [.s d]
 dI q79 [vp m.size 0,vi b,Sl.v c] f fun g h=>
 rS h m.size 0 fun i=>
 wrOk h a.1 (a.2+3+5) 1 /\
 let j:=scells h a.1 (a.2+3+5) [.s i]
 R (vi g) j)):cV q2u [vp a.1 a.2,vi b,Sl.v c] m R:=vcs (dl:=[]) (A1:=[]) (A2:=[]) (A3:=[]) (args:=[.c (.p a.1 a.2),.c (.i b),.c (.s c)]) Tryz.func135 h'

theorem qes (a:Nat × Nat) (b:Sl) (h' :
 0<=(b.len:Int)/\(b.len:Int)<=(b.len:Int)/\((8:Nat):Int)*(b.len:Int)<=281474976710656/\(b.len:Int)<=9223372036854775807 /\
 let c:=m.push (.cells (vals (zrow [.i 0] (Int.toNat (b.len:Int)))) 3)
 ∃ (d:Int->Mem->Prop) (e:Int->Mem->Nat),
 d 0 c /\
 (∀ f g,d f g ->
 iP (decide (f < b.len)) (0<=f/\f < b.len /\
 ∃ h:Int,gcell g b.blk (b.off+f.toNat*1)=some (vi h) /\
 ∃ i:Sl,gcell g a.1 (a.2+3)=some (Sl.v i) /\
 0<=h/\h < i.len /\
 ∃ j:Int,gcell g i.blk (i.off+h.toNat*1)=some (vi j) /\
 0<=f/\f < ((Sl.mk m.size 0 (Int.toNat (b.len:Int)) (Int.toNat (b.len:Int))).len:Int) /\
 wrOk g ((Sl.mk m.size 0 (Int.toNat (b.len:Int)) (Int.toNat (b.len:Int))).blk) ((Sl.mk m.size 0 (Int.toNat (b.len:Int)) (Int.toNat (b.len:Int))).off+f.toNat*1) 1 /\
 let k:=scells g ((Sl.mk m.size 0 (Int.toNat (b.len:Int)) (Int.toNat (b.len:Int))).blk) ((Sl.mk m.size 0 (Int.toNat (b.len:Int)) (Int.toNat (b.len:Int))).off+f.toNat*1) [.i j]
 d (w64 (f+1)) k/\e (w64 (f+1)) k < e f g) (R (Sl.v (Sl.mk m.size 0 (Int.toNat (b.len:Int)) (Int.toNat (b.len:Int)))) g))):cV q2q [vp a.1 a.2,Sl.v b] m R:=vcs (dl:=[]) (A1:=[(3,[(13,.I)])]) (A2:=[]) (A3:=[]) (args:=[.c (.p a.1 a.2),.c (.s b)]) Tryz.func136 h'

theorem qgk (a:Nat × Nat) (b:Int) (h' :
 let c:=m.push (.cells (vals [.i b]) 3)
 ∃ (d:Sl->Mem->Prop) (e:Sl->Mem->Nat),
 d (Sl.mk m.size 0 1 1) c /\
 (∀ f g,d f g ->
 iP (decide ((f.len:Int) > 0)) (∃ h:Sl,gcell g a.1 a.2=some (Sl.v h) /\
 0<=(w64 ((f.len:Int) - 1))/\(w64 ((f.len:Int) - 1)) < (f.len:Int) /\
 ∃ i:Int,gcell g f.blk (f.off+Int.toNat (w64 ((f.len:Int) - 1))*1)=some (vi i) /\
 cV q24 [Sl.v h,vi i] g fun j k=>
 ∃ l:Int,∃ n:Bool,j=.tuple #[vi l,vb n] /\
 (0:Int)<=(0:Int)/\0<=(w64 ((f.len:Int) - 1))/\(w64 ((f.len:Int) - 1))<=(f.cap:Int) /\
 iP (!n) (d (Sl.cut f (Int.toNat 0) (Int.toNat (w64 ((f.len:Int) - 1))) 1) k/\e (Sl.cut f (Int.toNat 0) (Int.toNat (w64 ((f.len:Int) - 1))) 1) k < e f g) (∃ o:Sl,gcell k a.1 a.2=some (Sl.v o) /\
 0<=l/\l < o.len /\
 ∃ p:Int,gcell k o.blk (o.off+l.toNat*3)=some (vi p) /\
 0<=l/\l < o.len /\
 wrOk k o.blk (o.off+l.toNat*3) 1 /\
 let q:=scells k o.blk (o.off+l.toNat*3) [.i (w64 (p - 1))]
 ∃ s:Sl,gcell q a.1 a.2=some (Sl.v s) /\
 0<=l/\l < s.len /\
 ∃ t:Int,gcell q s.blk (s.off+l.toNat*3)=some (vi t) /\
 iP (t == 0) (∃ u:Sl,gcell q a.1 a.2=some (Sl.v u) /\
 0<=l/\l < u.len /\
 ∃ v:Sl,gcell q u.blk (u.off+l.toNat*3+2)=some (Sl.v v) /\
 appC q 3 [.i 0] 8 (Sl.cut f (Int.toNat 0) (Int.toNat (w64 ((f.len:Int) - 1))) 1) v fun x y =>
 ∃ z:Sl,gcell y a.1 a.2=some (Sl.v z) /\
 0<=l/\l < z.len /\
 wrOk y z.blk (z.off+l.toNat*3) 3 /\
 let A:=scells y z.blk (z.off+l.toNat*3) [.i 0,.i 0,.s Sl.nil]
 d x A/\e x A < e f g) (d (Sl.cut f (Int.toNat 0) (Int.toNat (w64 ((f.len:Int) - 1))) 1) q/\e (Sl.cut f (Int.toNat 0) (Int.toNat (w64 ((f.len:Int) - 1))) 1) q < e f g))) (cV q5o [vp a.1 a.2] g fun h i=>
 R (.tuple #[]) i))):cV q8t [vp a.1 a.2,vi b] m R:=vcs (dl:=[2]) (A1:=[(1,[(4,.S)])]) (A2:=[]) (A3:=[]) (args:=[.c (.p a.1 a.2),.c (.i b)]) Tryz.func137 h'

theorem qe1 (a b:Nat × Nat) (c d e f:Int) (g h:Sl) (h' :
 let i:=m.push (.cells (vals [.i c,.i d,.i e,.i f,.s g,.s h]) 86)
 rS i b.1 (b.2+3) fun j=>
 eT m.size (rg 0 g (rI i g.blk (g.off+Int.toNat 0*1) fun k=>
 rg k j (rI i j.blk (j.off+k.toNat*1) fun l=>
 eT m.size (cB q2x [vp a.1 a.2,vi l,vb (c == 17)] [m.size] i fun n o=>
 iP n (rS o b.1 (b.2+5) fun p=>
 eT m.size (rg 0 g (rI o g.blk (g.off+Int.toNat 0*1) fun q=>
 rg q p (wrOk o p.blk (p.off+q.toNat*1) 1 /\
 let s:=scells o p.blk (p.off+q.toNat*1) [.i l]
 Sam [m.size] o s /\
 eT m.size ((0:Int)<=(1:Int)/\1<=(g.len:Int)/\(g.len:Int)<=(g.cap:Int) /\
 ∃ (t:Int->Mem->Prop) (u:Int->Mem->Nat),
 t 0 s /\
 (∀ v x,t v x ->
 iP (decide (v < ((Sl.cut g (Int.toNat 1) (Int.toNat (g.len:Int)) 1).len:Int))) (0<=v/\v < ((Sl.cut g (Int.toNat 1) (Int.toNat (g.len:Int)) 1).len:Int) /\
 rI x ((Sl.cut g (Int.toNat 1) (Int.toNat (g.len:Int)) 1).blk) ((Sl.cut g (Int.toNat 1) (Int.toNat (g.len:Int)) 1).off+v.toNat*1) fun y=>
 rS x b.1 (b.2+4) fun z=>
 rg y z (rI x z.blk (z.off+y.toNat*1) fun A=>
 rg y z (wrOk x z.blk (z.off+y.toNat*1) 1 /\
 let B:=scells x z.blk (z.off+y.toNat*1) [.i (w64 (A+1))]
 Sam [m.size] x B /\
 eS m.size 86 [.i c,.i d,.i e,.i f,.s g,.s h] (t (w64 (v+1)) B/\u (w64 (v+1)) B < u v x)))) (R (.tuple #[]) x))))))) (eT m.size ((0:Int)<=(1:Int)/\1<=(g.len:Int)/\(g.len:Int)<=(g.cap:Int) /\
 ∃ (p:Int->Mem->Prop) (q:Int->Mem->Nat),
 p 0 o /\
 (∀ s t,p s t ->
 iP (decide (s < ((Sl.cut g (Int.toNat 1) (Int.toNat (g.len:Int)) 1).len:Int))) (0<=s/\s < ((Sl.cut g (Int.toNat 1) (Int.toNat (g.len:Int)) 1).len:Int) /\
 rI t ((Sl.cut g (Int.toNat 1) (Int.toNat (g.len:Int)) 1).blk) ((Sl.cut g (Int.toNat 1) (Int.toNat (g.len:Int)) 1).off+s.toNat*1) fun u=>
 rS t b.1 (b.2+4) fun v=>
 rg u v (rI t v.blk (v.off+u.toNat*1) fun x=>
 rg u v (wrOk t v.blk (v.off+u.toNat*1) 1 /\
 let y:=scells t v.blk (v.off+u.toNat*1) [.i (w64 (x+1))]
 Sam [m.size] t y /\
 eS m.size 86 [.i c,.i d,.i e,.i f,.s g,.s h] (p (w64 (s+1)) y/\q (w64 (s+1)) y < q s t)))) (R (.tuple #[]) t))))))))):cV q68 [vp a.1 a.2,vp b.1 b.2,.agg #[vi c,vi d,vi e,vi f,Sl.v g,Sl.v h]] m R:=vcs (dl:=[1,3]) (A1:=[(5,[(39,.I)])]) (A2:=[]) (A3:=[(5,[58])]) (args:=[.c (.p a.1 a.2),.c (.p b.1 b.2),.agg [.i c,.i d,.i e,.i f,.s g,.s h]]) Tryz.func138 h'

theorem qdv (a:Int) (h' :
 iP (decide (a ≥ 1000)) (R (vi 1) m) (R (vi 0) m)):cV q3r [vi a] m R:=vcs (dl:=[]) (A1:=[]) (A2:=[]) (A3:=[]) (args:=[.c (.i a)]) Tryz.func139 h'

theorem qbl (a:Sl) (b:Int) (h' :
 ∃ (c:Int->Mem->Prop) (d:Int->Mem->Nat),
 c 0 m /\
 (∀ e f,c e f ->
 iP (decide (e < a.len)) (0<=e/\e < a.len /\
 ∃ g:Int,gcell f a.blk (a.off+e.toNat*1)=some (vi g) /\
 iP (b == g) (R (vi e) f) (c (w64 (e+1)) f/\d (w64 (e+1)) f < d e f)) (R (vi (-1)) f))):cV q3z [Sl.v a,vi b] m R:=vcs (dl:=[]) (A1:=[(2,[(8,.I)])]) (A2:=[]) (A3:=[]) (args:=[.c (.s a),.c (.i b)]) Tryz.func140 h'

theorem qkx (a:Sl) (b:Int) (h' :
 iP (decide (b < 1)) (R (Sl.v Sl.nil) m) (iP (decide (b > a.len)) (R (Sl.v Sl.nil) m) ((0:Int)<=(0:Int)/\0<=(w64 (b - 1))/\(w64 (b - 1))<=(a.cap:Int) /\
 dI q3j [Sl.v (Sl.cut a (Int.toNat 0) (Int.toNat (w64 (b - 1))) 3)] m fun c d=>
 rg (w64 (b - 1)) a (rS d a.blk (a.off+Int.toNat (w64 (b - 1))*3+2) fun e=>
 ∃ (f:Sl->Int->Mem->Prop) (g:Sl->Int->Mem->Nat),
 f Sl.nil 0 d /\
 (∀ h i j,f h i j ->
 iP (decide (i < e.len)) (let k:=j.push (.cells (vals [.i (w64 (c+i))]) 3)
 appC k 3 [.i 0] 8 h (Sl.mk j.size 0 1 1) fun l n =>
 f l (w64 (i+1)) n/\g l (w64 (i+1)) n < g h i j) (R (Sl.v h) j)))))):cV q5y [Sl.v a,vi b] m R:=vcs (dl:=[]) (A1:=[(6,[(6,.S),(28,.I)])]) (A2:=[]) (A3:=[]) (args:=[.c (.s a),.c (.i b)]) Tryz.func141 h'

end
section
set_option linter.unusedVariables false
set_option maxRecDepth 100000
variable {m:Mem} {R:Value->Mem->Prop}
theorem qdy (a:Nat × Nat) (b:Int) (c:Sl) (d e f g:Int) (h i:Sl) (h' :
 let j:=m.push (.cells (vals [.i d,.i e,.i f,.i g,.s h,.s i]) 86)
 rI j a.1 (a.2+3+2) fun k=>
 wrOk j a.1 (a.2+3+2) 1 /\
 let l:=scells j a.1 (a.2+3+2) [.i (w64 (k+1))]
 Sam [m.size] j l /\
 rS l a.1 (a.2+3+6) fun n=>
 eT m.size (∃ o:Int->Mem->Prop,
 (eT m.size (iP (d == 24) (rS l a.1 (a.2+3+6) fun p=>
 rg (w64 ((n.len:Int) - 1)) p (rI l p.blk (p.off+Int.toNat (w64 ((n.len:Int) - 1))*6+2) fun q=>
 rS l a.1 (a.2+3+6) fun s=>
 (0:Int)<=(0:Int)/\0<=(w64 ((n.len:Int) - 1))/\(w64 ((n.len:Int) - 1))<=(s.cap:Int) /\
 wrOk l a.1 (a.2+3+6) 1 /\
 let t:=scells l a.1 (a.2+3+6) [.s (Sl.cut s (Int.toNat 0) (Int.toNat (w64 ((n.len:Int) - 1))) 6)]
 Sam [m.size] l t /\
 eS m.size 86 [.i d,.i e,.i f,.i g,.s h,.s i] (o q t))) (eS m.size 86 [.i d,.i e,.i f,.i g,.s h,.s i] (o e l)))) /\
 (∀ p q,o p q ->
 rS q a.1 a.2 fun s=>
 rS q a.1 (a.2+1) fun t=>
 cV q9u [.agg #[Sl.v s,Sl.v t],vi b,vi p] q fun u v=>
 Sam [m.size] q v /\
 ∃ x:Int,∃ y:Int,∃ z:Int,∃ A:Sl,∃ B:Sl,∃ C:Sl,u=.agg #[vi x,vi y,vi z,Sl.v A,Sl.v B,Sl.v C] /\
 let D:=v.push (.cells (vals [.i 0,.i 0,.i 0,.s Sl.nil,.s Sl.nil,.s Sl.nil]) 84)
 eT v.size (let E:=scells D v.size 0 [.i x,.i y,.i z,.s A,.s B,.s C]
 ∃ (F:Int->Mem->Prop) (G:Int->Mem->Nat),
 F 0 E /\
 (∀ H J,F H J ->
 iP (decide (H < c.len)) (rg H c (rI J c.blk (c.off+H.toNat*1) fun K=>
 eT v.size (rg H A (wrOk J A.blk (A.off+H.toNat*1) 1 /\
 let L:=scells J A.blk (A.off+H.toNat*1) [.i K]
 Sam [v.size,m.size] J L /\
 rS L a.1 (a.2+1) fun M=>
 rg b M (rS L M.blk (M.off+b.toNat*5+1) fun N=>
 cB q2n [Sl.v N,vi H] [v.size,m.size] L fun O P=>
 iP (!O) (eT v.size (cI q3r [vi K] [v.size,m.size] P fun Q S=>
 gk S P v.size 4 /\
 rg H B (wrOk S B.blk (B.off+H.toNat*1) 1 /\
 let T:=scells S B.blk (B.off+H.toNat*1) [.i Q]
 Sam [v.size,m.size] S T /\
 eS v.size 84 [.i x,.i y,.i z,.s A,.s B,.s C] (eS m.size 86 [.i d,.i e,.i f,.i g,.s h,.s i] (F (w64 (H+1)) T/\G (w64 (H+1)) T < G H J))))) (eS v.size 84 [.i x,.i y,.i z,.s A,.s B,.s C] (eS m.size 86 [.i d,.i e,.i f,.i g,.s h,.s i] (F (w64 (H+1)) P/\G (w64 (H+1)) P < G H J)))))))) (rS J a.1 (a.2+3+6) fun K=>
 eT v.size (let L:=J.push (.cells (vals [.i x,.i y,.i z,.s A,.s B,.s C]) 84)
 gk L J a.1 (a.2+3+6) /\
 appC L 84 [.i 0,.i 0,.i 0,.s Sl.nil,.s Sl.nil,.s Sl.nil] 96 K (Sl.mk J.size 0 1 1) fun M N =>
 Sam [v.size,m.size] L N /\
 wrOk N a.1 (a.2+3+6) 1 /\
 let O:=scells N a.1 (a.2+3+6) [.s M]
 Sam [v.size,m.size] N O /\
 R (.tuple #[]) O))))))):cV q34 [vp a.1 a.2,vi b,Sl.v c,.agg #[vi d,vi e,vi f,vi g,Sl.v h,Sl.v i]] m R:=vcs (dl:=[13,15]) (A1:=[(9,[(63,.I)])]) (A2:=[(7,[(9,.I)])]) (A3:=[(7,[111]),(9,[114,111])]) (args:=[.c (.p a.1 a.2),.c (.i b),.c (.s c),.agg [.i d,.i e,.i f,.i g,.s h,.s i]]) Tryz.func142 h'

theorem qdq (a:Nat × Nat) (b:Int) (c:Bool) (h' :
 rS m a.1 (a.2+3+5) fun d=>
 rg (w64 (b - 1000)) d (∃ e:Mem->Prop,
 (rI m d.blk (d.off+Int.toNat (w64 (b - 1000))*3) fun f=>
 iP (f == 1) (iP c (rS m d.blk (d.off+Int.toNat (w64 (b - 1000))*3+2) fun g=>
 0<=(g.len:Int)/\(g.len:Int)<=(g.len:Int)/\((8:Nat):Int)*(g.len:Int)<=281474976710656/\(g.len:Int)<=9223372036854775807 /\
 let h:=m.push (.cells (vals (zrow [.i 0] (Int.toNat (g.len:Int)))) 3)
 wrOk h d.blk (d.off+Int.toNat (w64 (b - 1000))*3) 3 /\
 let i:=scells h d.blk (d.off+Int.toNat (w64 (b - 1000))*3) [.i (-1),.i 0,.s (Sl.mk m.size 0 (Int.toNat (g.len:Int)) (Int.toNat (g.len:Int)))]
 R (vb true) i) (e m)) (e m)) /\
 (∀ f,e f ->
 rI f d.blk (d.off+Int.toNat (w64 (b - 1000))*3) fun g=>
 iP (g == 1) (wrOk f d.blk (d.off+Int.toNat (w64 (b - 1000))*3) 3 /\
 let h:=scells f d.blk (d.off+Int.toNat (w64 (b - 1000))*3) [.i 0,.i 0,.s Sl.nil]
 rS h a.1 (a.2+3+5) fun i=>
 let j:=h.push (.cells (vals [.s Sl.nil]) 193)
 eT h.size (let k:=scells j h.size 0 [.s i]
 cV q5o [vp h.size 0] k fun l n=>
 rS n h.size 0 fun o=>
 wrOk n a.1 (a.2+3+5) 1 /\
 let p:=scells n a.1 (a.2+3+5) [.s o]
 R (vb false) p)) (rI f d.blk (d.off+Int.toNat (w64 (b - 1000))*3) fun h=>
 wrOk f d.blk (d.off+Int.toNat (w64 (b - 1000))*3) 1 /\
 let i:=scells f d.blk (d.off+Int.toNat (w64 (b - 1000))*3) [.i (w64 (h - 1))]
 rS i d.blk (d.off+Int.toNat (w64 (b - 1000))*3+2) fun j=>
 ∃ (k:Int->Mem->Prop) (l:Int->Mem->Nat),
 k 0 i /\
 (∀ n o,k n o ->
 iP (decide (n < j.len)) (rg n j (rI o j.blk (j.off+n.toNat*1) fun p=>
 rS o a.1 (a.2+3+5) fun q=>
 cV q24 [Sl.v q,vi p] o fun s t=>
 ∃ u:Int,∃ v:Bool,s=.tuple #[vi u,vb v] /\
 iP v (rS t a.1 (a.2+3+5) fun x=>
 rg u x (rI t x.blk (x.off+u.toNat*3) fun y=>
 rg u x (wrOk t x.blk (x.off+u.toNat*3) 1 /\
 let z:=scells t x.blk (x.off+u.toNat*3) [.i (w64 (y+1))]
 k (w64 (n+1)) z/\l (w64 (n+1)) z < l n o))) (k (w64 (n+1)) t/\l (w64 (n+1)) t < l n o))) (R (vb false) o)))))):cV q2x [vp a.1 a.2,vi b,vb c] m R:=vcs (dl:=[]) (A1:=[(13,[(69,.I)])]) (A2:=[(5,[])]) (A3:=[]) (args:=[.c (.p a.1 a.2),.c (.i b),.c (.t c)]) Tryz.func143 h'

theorem qb5 (a:Nat × Nat) (b:Int) (h' :
 rS m a.1 (a.2+3+6) fun c=>
 rS m a.1 (a.2+3+6) fun d=>
 rg (w64 ((c.len:Int) - 1)) d (rI m d.blk (d.off+Int.toNat (w64 ((c.len:Int) - 1))*6+2) fun e=>
 rS m a.1 (a.2+3+6) fun f=>
 (0:Int)<=(0:Int)/\0<=(w64 ((c.len:Int) - 1))/\(w64 ((c.len:Int) - 1))<=(f.cap:Int) /\
 wrOk m a.1 (a.2+3+6) 1 /\
 let g:=scells m a.1 (a.2+3+6) [.s (Sl.cut f (Int.toNat 0) (Int.toNat (w64 ((c.len:Int) - 1))) 6)]
 iP ((w64 ((c.len:Int) - 1)) == 0) (wrOk g a.1 (a.2+3) 1 /\
 let h:=scells g a.1 (a.2+3) [.i 0]
 wrOk h a.1 (a.2+3+1) 1 /\
 let i:=scells h a.1 (a.2+3+1) [.i b]
 wrOk i a.1 (a.2+3+6) 1 /\
 let j:=scells i a.1 (a.2+3+6) [.s Sl.nil]
 R (.tuple #[]) j) (rS g a.1 (a.2+3+6) fun h=>
 rg (w64 ((w64 ((c.len:Int) - 1)) - 1)) h (dI q3r [vi b] g fun i j=>
 gk j g a.1 (a.2+3+6) /\
 cV q1m [vp h.blk (h.off+Int.toNat (w64 ((w64 ((c.len:Int) - 1)) - 1))*6),vi e,vi b,vi i] j fun k l=>
 R (.tuple #[]) l)))):cV q4s [vp a.1 a.2,vi b] m R:=vcs (dl:=[5]) (A1:=[]) (A2:=[]) (A3:=[]) (args:=[.c (.p a.1 a.2),.c (.i b)]) Tryz.func144 h'

theorem qkr (a b:Sl) (h' :
 iP ((a.len:Int) != (b.len:Int)) (R (vb false) m) (∃ (c:Int->Mem->Prop) (d:Int->Mem->Nat),
 c 0 m /\
 (∀ e f,c e f ->
 iP (decide (e < a.len)) (0<=e/\e < a.len /\
 ∃ g:Sl,gcell f a.blk (a.off+e.toNat*1)=some (Sl.v g) /\
 0<=e/\e < b.len /\
 ∃ h:Sl,gcell f b.blk (b.off+e.toNat*1)=some (Sl.v h) /\
 cV qcu [.agg #[Sl.v g],.agg #[Sl.v h]] f fun i j=>
 ∃ k:Bool,i=vb k /\
 iP (!k) (R (vb false) j) (c (w64 (e+1)) j/\d (w64 (e+1)) j < d e f)) (R (vb true) f)))):cV qbo [Sl.v a,Sl.v b] m R:=vcs (dl:=[6]) (A1:=[(4,[(5,.I)])]) (A2:=[]) (A3:=[]) (args:=[.c (.s a),.c (.s b)]) Tryz.func145 h'

theorem qhn (a b:Sl) (h' :
 iP ((a.len:Int) != (b.len:Int)) (R (vb false) m) (∃ (c:Int->Mem->Prop) (d:Int->Mem->Nat),
 c 0 m /\
 (∀ e f,c e f ->
 iP (decide (e < a.len)) (0<=e/\e < a.len /\
 ∃ g:Int,gcell f a.blk (a.off+e.toNat*6)=some (vi g) /\
 ∃ h:Int,gcell f a.blk (a.off+e.toNat*6+1)=some (vi h) /\
 ∃ i:Int,gcell f a.blk (a.off+e.toNat*6+2)=some (vi i) /\
 ∃ j:Int,gcell f a.blk (a.off+e.toNat*6+3)=some (vi j) /\
 ∃ k:Sl,gcell f a.blk (a.off+e.toNat*6+4)=some (Sl.v k) /\
 ∃ l:Sl,gcell f a.blk (a.off+e.toNat*6+5)=some (Sl.v l) /\
 0<=e/\e < b.len /\
 ∃ n:Int,gcell f b.blk (b.off+e.toNat*6)=some (vi n) /\
 ∃ o:Int,gcell f b.blk (b.off+e.toNat*6+1)=some (vi o) /\
 ∃ p:Int,gcell f b.blk (b.off+e.toNat*6+2)=some (vi p) /\
 ∃ q:Int,gcell f b.blk (b.off+e.toNat*6+3)=some (vi q) /\
 ∃ s:Sl,gcell f b.blk (b.off+e.toNat*6+4)=some (Sl.v s) /\
 ∃ t:Sl,gcell f b.blk (b.off+e.toNat*6+5)=some (Sl.v t) /\
 cV qak [.agg #[vi g,vi h,vi i,vi j,Sl.v k,Sl.v l],.agg #[vi n,vi o,vi p,vi q,Sl.v s,Sl.v t]] f fun u v=>
 ∃ x:Bool,u=vb x /\
 iP (!x) (R (vb false) v) (c (w64 (e+1)) v/\d (w64 (e+1)) v < d e f)) (R (vb true) f)))):cV q9i [Sl.v a,Sl.v b] m R:=vcs (dl:=[6]) (A1:=[(4,[(5,.I)])]) (A2:=[]) (A3:=[]) (args:=[.c (.s a),.c (.s b)]) Tryz.func146 h'

theorem qh2 (a:Sl) (b c:Int) (d:Sl) (h' :
 let e:=m.push (.cells (vals [.i b,.i c,.s d]) 149)
 eT m.size (iP (decide ((d.len:Int) > 3)) (R (vb false) e) (eT m.size (cB q0d [vi b,vi (-1),vi 999999] [m.size] e fun f g=>
 iP (!f) (R (vb false) g) (eT m.size (iP (decide (b < 1)) (eT m.size (iP (c == 0) (eT m.size (cB q3v [Sl.v d] [m.size] g fun h i=>
 iP h (eT m.size (iP (decide (b < 0)) (R (vb true) i) (eT m.size (R (vb ((d.len:Int) == 0)) i)))) (R (vb false) i))) (R (vb false) g))) (∃ (h:Int->Mem->Prop) (i:Int->Mem->Nat),
 h 0 g /\
 (∀ j k,h j k ->
 eT m.size (iP (decide (j < d.len)) (eT m.size (rg j d (rI k d.blk (d.off+j.toNat*1) fun l=>
 cB qbm [Sl.v a,vi l] [m.size] k fun n o=>
 iP (!n) (R (vb false) o) (eS m.size 149 [.i b,.i c,.s d] (h (w64 (j+1)) o/\i (w64 (j+1)) o < i j k))))) (eT m.size (cB q0d [vi c,vi 0,vi 99] [m.size] k fun l n=>
 R (vb l) n))))))))))):cV q8o [Sl.v a,.agg #[vi b,vi c,Sl.v d]] m R:=vcs (dl:=[]) (A1:=[(6,[(5,.I)])]) (A2:=[]) (A3:=[(6,[59])]) (args:=[.c (.s a),.agg [.i b,.i c,.s d]]) Tryz.func149 h'

theorem ql2 (a:Sl) (h' :
 0<=(a.len:Int)/\(a.len:Int)<=(a.len:Int)/\((8:Nat):Int)*(a.len:Int)<=281474976710656/\(a.len:Int)<=9223372036854775807 /\
 let b:=m.push (.cells (vals (zrow [.i 0] (Int.toNat (a.len:Int)))) 3)
 ∃ (c:Int->Mem->Prop) (d:Int->Mem->Nat),
 c 0 b /\
 (∀ e f,c e f ->
 iP (decide (e < a.len)) (∃ (g:Int->Mem->Prop) (h:Int->Mem->Nat),
 g 0 f /\
 (∀ i j,g i j ->
 0<=e/\e < a.len /\
 ∃ k:Sl,gcell j a.blk (a.off+e.toNat*3+2)=some (Sl.v k) /\
 iP (decide (i < k.len)) (0<=e/\e < a.len /\
 ∃ l:Sl,gcell j a.blk (a.off+e.toNat*3+2)=some (Sl.v l) /\
 0<=i/\i < l.len /\
 ∃ n:Int,gcell j l.blk (l.off+i.toNat*1)=some (vi n) /\
 cV q1w [Sl.v a,vi n] j fun o p=>
 ∃ q:Bool,o=vb q /\
 iP q (0<=e/\e < a.len /\
 ∃ s:Sl,gcell p a.blk (a.off+e.toNat*3+2)=some (Sl.v s) /\
 0<=i/\i < s.len /\
 ∃ t:Int,gcell p s.blk (s.off+i.toNat*1)=some (vi t) /\
 0<=(w64 (t - 1000))/\(w64 (t - 1000)) < ((Sl.mk m.size 0 (Int.toNat (a.len:Int)) (Int.toNat (a.len:Int))).len:Int) /\
 ∃ u:Int,gcell p ((Sl.mk m.size 0 (Int.toNat (a.len:Int)) (Int.toNat (a.len:Int))).blk) ((Sl.mk m.size 0 (Int.toNat (a.len:Int)) (Int.toNat (a.len:Int))).off+Int.toNat (w64 (t - 1000))*1)=some (vi u) /\
 0<=(w64 (t - 1000))/\(w64 (t - 1000)) < ((Sl.mk m.size 0 (Int.toNat (a.len:Int)) (Int.toNat (a.len:Int))).len:Int) /\
 wrOk p ((Sl.mk m.size 0 (Int.toNat (a.len:Int)) (Int.toNat (a.len:Int))).blk) ((Sl.mk m.size 0 (Int.toNat (a.len:Int)) (Int.toNat (a.len:Int))).off+Int.toNat (w64 (t - 1000))*1) 1 /\
 let v:=scells p ((Sl.mk m.size 0 (Int.toNat (a.len:Int)) (Int.toNat (a.len:Int))).blk) ((Sl.mk m.size 0 (Int.toNat (a.len:Int)) (Int.toNat (a.len:Int))).off+Int.toNat (w64 (t - 1000))*1) [.i (w64 (u+1))]
 g (w64 (i+1)) v/\h (w64 (i+1)) v < h i j) (g (w64 (i+1)) p/\h (w64 (i+1)) p < h i j)) (c (w64 (e+1)) j/\d (w64 (e+1)) j < d e f))) (R (Sl.v (Sl.mk m.size 0 (Int.toNat (a.len:Int)) (Int.toNat (a.len:Int)))) f))):cV q7w [Sl.v a] m R:=vcs (dl:=[]) (A1:=[(3,[(4,.I)]),(6,[(5,.I)])]) (A2:=[]) (A3:=[]) (args:=[.c (.s a)]) Tryz.func150 h'

theorem qfu (a:Sl) (h' :
 0<=(a.len:Int)/\(a.len:Int)<=(a.len:Int)/\((1:Nat):Int)*(a.len:Int)<=281474976710656/\(a.len:Int)<=9223372036854775807 /\
 let b:=m.push (.cells (vals (zrow [.t false] (Int.toNat (a.len:Int)))) 4)
 ∃ (c:Int->Bool->Mem->Prop) (d:Int->Bool->Mem->Nat),
 c 0 true b /\
 (∀ e f g,c e f g ->
 iP f (∃ (h:Int->Bool->Int->Mem->Prop) (i:Int->Bool->Int->Mem->Nat),
 h e false 0 g /\
 (∀ j k l n,h j k l n ->
 iP (decide (l < a.len)) (0<=l/\l < ((Sl.mk m.size 0 (Int.toNat (a.len:Int)) (Int.toNat (a.len:Int))).len:Int) /\
 ∃ o:Bool,gcell n ((Sl.mk m.size 0 (Int.toNat (a.len:Int)) (Int.toNat (a.len:Int))).blk) ((Sl.mk m.size 0 (Int.toNat (a.len:Int)) (Int.toNat (a.len:Int))).off+l.toNat*1)=some (vb o) /\
 iP (!o) (0<=l/\l < a.len /\
 ∃ p:Sl,gcell n a.blk (a.off+l.toNat*3+2)=some (Sl.v p) /\
 cV q8u [Sl.v (Sl.mk m.size 0 (Int.toNat (a.len:Int)) (Int.toNat (a.len:Int))),Sl.v p] n fun q s=>
 ∃ t:Bool,q=vb t /\
 iP t (0<=l/\l < ((Sl.mk m.size 0 (Int.toNat (a.len:Int)) (Int.toNat (a.len:Int))).len:Int) /\
 wrOk s ((Sl.mk m.size 0 (Int.toNat (a.len:Int)) (Int.toNat (a.len:Int))).blk) ((Sl.mk m.size 0 (Int.toNat (a.len:Int)) (Int.toNat (a.len:Int))).off+l.toNat*1) 1 /\
 let u:=scells s ((Sl.mk m.size 0 (Int.toNat (a.len:Int)) (Int.toNat (a.len:Int))).blk) ((Sl.mk m.size 0 (Int.toNat (a.len:Int)) (Int.toNat (a.len:Int))).off+l.toNat*1) [.t true]
 h (w64 (j+1)) true (w64 (l+1)) u/\i (w64 (j+1)) true (w64 (l+1)) u < i j k l n) (h j k (w64 (l+1)) s/\i j k (w64 (l+1)) s < i j k l n)) (h j k (w64 (l+1)) n/\i j k (w64 (l+1)) n < i j k l n)) (c j k n/\d j k n < d e f g))) (R (vb (e == (a.len:Int))) g))):cV q8f [Sl.v a] m R:=vcs (dl:=[]) (A1:=[(4,[(4,.I),(5,.T)]),(7,[(4,.I),(5,.T),(6,.I)])]) (A2:=[]) (A3:=[]) (args:=[.c (.s a)]) Tryz.func151 h'

theorem qh6 (a:Sl) (b c d:Int) (e f g:Sl) (h' :
 let h:=m.push (.cells (vals [.i b,.i c,.i d,.s e,.s f,.s g]) 84)
 ∃ (i:Int->Mem->Prop) (j:Int->Mem->Nat),
 i 0 h /\
 (∀ k l,i k l ->
 eT m.size (iP (decide (k < e.len)) (eT m.size (rg k e (rI l e.blk (e.off+k.toNat*1) fun n=>
 cB q0d [vi n,vi (-999),vi 999] [m.size] l fun o p=>
 iP (!o) (cB q13 [vi n] [m.size] p fun q s=>
 iP (!q) (R (vb false) s) (eT m.size (rg k f (rI s f.blk (f.off+k.toNat*1) fun t=>
 cB q0d [vi t,vi 0,vi 999999] [m.size] s fun u v=>
 iP (!u) (R (vb false) v) (eT m.size (rg k f (rI v f.blk (f.off+k.toNat*1) fun x=>
 iP (decide (x > 0)) (cB q1w [Sl.v a,vi n] [m.size] v fun y z=>
 iP (!y) (R (vb false) z) (eS m.size 84 [.i b,.i c,.i d,.s e,.s f,.s g] (i (w64 (k+1)) z/\j (w64 (k+1)) z < j k l))) (eS m.size 84 [.i b,.i c,.i d,.s e,.s f,.s g] (i (w64 (k+1)) v/\j (w64 (k+1)) v < j k l))))))))) (eT m.size (rg k f (rI p f.blk (f.off+k.toNat*1) fun q=>
 cB q0d [vi q,vi 0,vi 999999] [m.size] p fun s t=>
 iP (!s) (R (vb false) t) (eT m.size (rg k f (rI t f.blk (f.off+k.toNat*1) fun u=>
 iP (decide (u > 0)) (cB q1w [Sl.v a,vi n] [m.size] t fun v x=>
 iP (!v) (R (vb false) x) (eS m.size 84 [.i b,.i c,.i d,.s e,.s f,.s g] (i (w64 (k+1)) x/\j (w64 (k+1)) x < j k l))) (eS m.size 84 [.i b,.i c,.i d,.s e,.s f,.s g] (i (w64 (k+1)) t/\j (w64 (k+1)) t < j k l))))))))))) (R (vb true) l)))):cV q8n [Sl.v a,.agg #[vi b,vi c,vi d,Sl.v e,Sl.v f,Sl.v g]] m R:=vcs (dl:=[]) (A1:=[(2,[(5,.I)])]) (A2:=[]) (A3:=[(2,[53])]) (args:=[.c (.s a),.agg [.i b,.i c,.i d,.s e,.s f,.s g]]) Tryz.func152 h'

theorem qg1 (a:Int) (h' :
 R (vb (decide (a ≥ 1000))) m):cV q13 [vi a] m R:=vcs (dl:=[]) (A1:=[]) (A2:=[]) (A3:=[]) (args:=[.c (.i a)]) Tryz.func153 h'

theorem qhj (a b c d:Int) (e f g:Sl) (h' :
 let h:=m.push (.cells (vals [.i a,.i b,.i c,.i d,.s e,.s f,.s g]) 55)
 eT m.size (0<=(f.len:Int)/\(f.len:Int)<=(f.len:Int)/\((8:Nat):Int)*(f.len:Int)<=281474976710656/\(f.len:Int)<=9223372036854775807 /\
 let i:=h.push (.cells (vals (zrow [.i 0] (Int.toNat (f.len:Int)))) 3)
 ∃ (j:Int->Mem->Prop) (k:Int->Mem->Nat),
 j 0 i /\
 (∀ l n,j l n ->
 eT m.size (iP (decide (l < g.len)) (eT m.size (rg l g (rI n g.blk (g.off+l.toNat*6) fun o=>
 rI n g.blk (g.off+l.toNat*6+1) fun p=>
 rI n g.blk (g.off+l.toNat*6+2) fun q=>
 rS n g.blk (g.off+l.toNat*6+3) fun s=>
 rS n g.blk (g.off+l.toNat*6+4) fun t=>
 rS n g.blk (g.off+l.toNat*6+5) fun u=>
 let v:=n.push (.cells (vals [.i 0,.i 0,.i 0,.s Sl.nil,.s Sl.nil,.s Sl.nil]) 84)
 eT n.size (let x:=scells v n.size 0 [.i o,.i p,.i q,.s s,.s t,.s u]
 ∃ (y:Int->Mem->Prop) (z:Int->Mem->Nat),
 y 0 x /\
 (∀ A B,y A B ->
 eT n.size (iP (decide (A < t.len)) (eT n.size (rg A t (rI B t.blk (t.off+A.toNat*1) fun C=>
 iP (decide (C > 0)) (eT n.size (rg A s (rI B s.blk (s.off+A.toNat*1) fun D=>
 eT n.size (rg A s (rI B s.blk (s.off+A.toNat*1) fun E=>
 0<=(w64 (E - 1000))/\(w64 (E - 1000)) < ((Sl.mk h.size 0 (Int.toNat (f.len:Int)) (Int.toNat (f.len:Int))).len:Int) /\
 rI B ((Sl.mk h.size 0 (Int.toNat (f.len:Int)) (Int.toNat (f.len:Int))).blk) ((Sl.mk h.size 0 (Int.toNat (f.len:Int)) (Int.toNat (f.len:Int))).off+Int.toNat (w64 (E - 1000))*1) fun F=>
 eT n.size (rg A t (rI B t.blk (t.off+A.toNat*1) fun G=>
 0<=(w64 (D - 1000))/\(w64 (D - 1000)) < ((Sl.mk h.size 0 (Int.toNat (f.len:Int)) (Int.toNat (f.len:Int))).len:Int) /\
 wrOk B ((Sl.mk h.size 0 (Int.toNat (f.len:Int)) (Int.toNat (f.len:Int))).blk) ((Sl.mk h.size 0 (Int.toNat (f.len:Int)) (Int.toNat (f.len:Int))).off+Int.toNat (w64 (D - 1000))*1) 1 /\
 let H:=scells B ((Sl.mk h.size 0 (Int.toNat (f.len:Int)) (Int.toNat (f.len:Int))).blk) ((Sl.mk h.size 0 (Int.toNat (f.len:Int)) (Int.toNat (f.len:Int))).off+Int.toNat (w64 (D - 1000))*1) [.i (w64 (F+G))]
 Sam [n.size,m.size] B H /\
 eS n.size 84 [.i o,.i p,.i q,.s s,.s t,.s u] (eS m.size 55 [.i a,.i b,.i c,.i d,.s e,.s f,.s g] (y (w64 (A+1)) H/\z (w64 (A+1)) H < z A B))))))))) (eS n.size 84 [.i o,.i p,.i q,.s s,.s t,.s u] (eS m.size 55 [.i a,.i b,.i c,.i d,.s e,.s f,.s g] (y (w64 (A+1)) B/\z (w64 (A+1)) B < z A B)))))) (eS m.size 55 [.i a,.i b,.i c,.i d,.s e,.s f,.s g] (j (w64 (l+1)) B/\k (w64 (l+1)) B < k l n)))))))) (R (Sl.v (Sl.mk h.size 0 (Int.toNat (f.len:Int)) (Int.toNat (f.len:Int)))) n))))):cV q91 [.agg #[vi a,vi b,vi c,vi d,Sl.v e,Sl.v f,Sl.v g]] m R:=vcs (dl:=[10]) (A1:=[(3,[(4,.I)]),(7,[(6,.I)])]) (A2:=[]) (A3:=[(3,[61]),(7,[65,61])]) (args:=[.agg [.i a,.i b,.i c,.i d,.s e,.s f,.s g]]) Tryz.func154 h'

theorem qi3 (a:Int) (h' :
 iP (a == 6) (R (vb true) m) (iP (a == 9) (R (vb true) m) (iP (a == 10) (R (vb true) m) (R (vb (a == 11)) m)))):cV q90 [vi a] m R:=vcs (dl:=[]) (A1:=[]) (A2:=[]) (A3:=[]) (args:=[.c (.i a)]) Tryz.func155 h'

end
end Go.Proofs.YtpggcodlaajceaaGreat
