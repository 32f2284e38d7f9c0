/- Part of a proof, joined by a program: Cn18 Cn19 Cn20 Cn21 Cn22 Cns Sv1 Sv2 Own Sv3. -/
import Derived.Test.YtpggcodlaajceaaGreatU01
import Derived.Test.YtpggcodlaajceaaGreatU02
import Derived.Test.YtpggcodlaajceaaGreatU03
set_option linter.unusedVariables false
set_option linter.unusedSimpArgs false
namespace Go.Proofs.YtpggcodlaajceaaGreat
open Go.Vc
section
set_option linter.unusedVariables false
set_option maxRecDepth 100000
variable {m:Mem} {R:Value->Mem->Prop}
theorem qjp (a b:Sl) (c d e f:Int) (g h:Sl) (i:Int) (h' :
 let j:=m.push (.cells (vals [.s a,.s b]) 35)
 let k:=j.push (.cells (vals [.i c,.i d,.i e,.i f,.s g,.s h]) 86)
 eT j.size (iP (c == 9) (eT m.size (eT j.size (rg e b (rS k b.blk (b.off+e.toNat*5+1) fun l=>
 cB q61 [Sl.v l,vi i] [j.size,m.size] k fun n o=>
 R (vb n) o)))) (eT j.size (iP (c == 24) (eT m.size (eT j.size (rg e b (rS k b.blk (b.off+e.toNat*5+1) fun l=>
 cB q61 [Sl.v l,vi i] [j.size,m.size] k fun n o=>
 R (vb n) o)))) (R (vb false) k))))):cV q5f [.agg #[Sl.v a,Sl.v b],.agg #[vi c,vi d,vi e,vi f,Sl.v g,Sl.v h],vi i] m R:=vcs (dl:=[]) (A1:=[]) (A2:=[]) (A3:=[]) (args:=[.agg [.s a,.s b],.agg [.i c,.i d,.i e,.i f,.s g,.s h],.c (.i i)]) Tryz.func156 h'

theorem qdz (a:Sl) (h' :
 ∃ (b:Int->Mem->Prop) (c:Int->Mem->Nat),
 b 0 m /\
 (∀ d e,b d e ->
 iP (decide (d < a.len)) (0<=d/\d < a.len /\
 ∃ f:Int,gcell e a.blk (a.off+d.toNat*1)=some (vi f) /\
 iP (decide (f < 0)) (R (vb false) e) (b (w64 (d+1)) e/\c (w64 (d+1)) e < c d e)) (R (vb true) e))):cV q63 [Sl.v a] m R:=vcs (dl:=[]) (A1:=[(2,[(3,.I)])]) (A2:=[]) (A3:=[]) (args:=[.c (.s a)]) Tryz.func157 h'

theorem qom (a:Int) (h' :
 cV qax [vi a] m fun b c=>
 ∃ d:Bool,b=vb d /\
 iP d (iP (a != 7) (iP (a != 8) (R (vb true) c) (iP (a == 18) (R (vb true) c) (R (vb (a == 19)) c))) (iP (a == 18) (R (vb true) c) (R (vb (a == 19)) c))) (iP (a == 18) (R (vb true) c) (R (vb (a == 19)) c))):cV qb2 [vi a] m R:=vcs (dl:=[]) (A1:=[]) (A2:=[]) (A3:=[]) (args:=[.c (.i a)]) Tryz.func158 h'

theorem qf7 (a b c:Int) (d e f:Sl) (g h i j:Int) (k l:Sl) (h' :
 let n:=m.push (.cells (vals [.i a,.i b,.i c,.s d,.s e,.s f]) 84)
 let o:=n.push (.cells (vals [.i g,.i h,.i i,.i j,.s k,.s l]) 86)
 ∃ (p:Int->Mem->Prop) (q:Int->Mem->Nat),
 p 0 o /\
 (∀ s t,p s t ->
 eT n.size (iP (decide (s < k.len)) (eT m.size (eT n.size (rg s k (rI t k.blk (k.off+s.toNat*1) fun u=>
 rg u d (rI t d.blk (d.off+u.toNat*1) fun v=>
 cB q13 [vi v] [n.size,m.size] t fun x y=>
 iP x (R (vb false) y) (eS n.size 86 [.i g,.i h,.i i,.i j,.s k,.s l] (eS m.size 84 [.i a,.i b,.i c,.s d,.s e,.s f] (p (w64 (s+1)) y/\q (w64 (s+1)) y < q s t)))))))) (R (vb true) t)))):cV q7e [.agg #[vi a,vi b,vi c,Sl.v d,Sl.v e,Sl.v f],.agg #[vi g,vi h,vi i,vi j,Sl.v k,Sl.v l]] m R:=vcs (dl:=[4]) (A1:=[(2,[(5,.I)])]) (A2:=[]) (A3:=[(2,[26,25])]) (args:=[.agg [.i a,.i b,.i c,.s d,.s e,.s f],.agg [.i g,.i h,.i i,.i j,.s k,.s l]]) Tryz.func159 h'

theorem qbf (a:Nat × Nat) (b c d:Int) (e f g:Sl) (h i j k:Int) (l n:Sl) (h' :
 let o:=m.push (.cells (vals [.i b,.i c,.i d,.s e,.s f,.s g]) 84)
 let p:=o.push (.cells (vals [.i h,.i i,.i j,.i k,.s l,.s n]) 86)
 eT o.size (iP (k == 0) (R (vb true) p) (eT m.size (eT o.size (rg (w64 (k - 1)) g (rI p g.blk (g.off+Int.toNat (w64 (k - 1))*1) fun q=>
 iP (q == 0) (R (vb true) p) (eT m.size (eT o.size (rg (w64 (k - 1)) g (rI p g.blk (g.off+Int.toNat (w64 (k - 1))*1) fun s=>
 eT o.size (cV q0z [vp a.1 a.2,vi s] p fun t u=>
 Sam [o.size,m.size] p u /\
 ∃ v:Int,∃ x:Int,∃ y:Sl,t=.agg #[vi v,vi x,Sl.v y] /\
 gk u p o.size 4 /\
 R (vb ((y.len:Int) == (l.len:Int))) u))))))))))):cV q4u [vp a.1 a.2,.agg #[vi b,vi c,vi d,Sl.v e,Sl.v f,Sl.v g],.agg #[vi h,vi i,vi j,vi k,Sl.v l,Sl.v n]] m R:=vcs (dl:=[3]) (A1:=[]) (A2:=[]) (A3:=[]) (args:=[.c (.p a.1 a.2),.agg [.i b,.i c,.i d,.s e,.s f,.s g],.agg [.i h,.i i,.i j,.i k,.s l,.s n]]) Tryz.func160 h'

theorem qbb (a:Nat × Nat) (b c d:Int) (e f g:Sl) (h i j k:Int) (l n:Sl) (h' :
 let o:=m.push (.cells (vals [.i b,.i c,.i d,.s e,.s f,.s g]) 84)
 let p:=o.push (.cells (vals [.i h,.i i,.i j,.i k,.s l,.s n]) 86)
 ∃ (q:Int->Mem->Prop) (s:Int->Mem->Nat),
 q 0 p /\
 (∀ t u,q t u ->
 eT o.size (iP (decide (t < l.len)) (eT m.size (eT o.size (rg t l (rI u l.blk (l.off+t.toNat*1) fun v=>
 rg v e (rI u e.blk (e.off+v.toNat*1) fun x=>
 rS u a.1 a.2 fun y=>
 rS u a.1 (a.2+1) fun z=>
 eT o.size (cB q5f [.agg #[Sl.v y,Sl.v z],.agg #[vi h,vi i,vi j,vi k,Sl.v l,Sl.v n],vi t] [o.size,m.size] u fun A B=>
 iP A (cB q13 [vi x] [o.size,m.size] B fun C D=>
 iP C (rS D a.1 (a.2+2+5) fun E=>
 cB q1w [Sl.v E,vi x] [o.size,m.size] D fun F G=>
 iP (!F) (R (vb false) G) (eS o.size 86 [.i h,.i i,.i j,.i k,.s l,.s n] (eS m.size 84 [.i b,.i c,.i d,.s e,.s f,.s g] (q (w64 (t+1)) G/\s (w64 (t+1)) G < s t u)))) (eS o.size 86 [.i h,.i i,.i j,.i k,.s l,.s n] (eS m.size 84 [.i b,.i c,.i d,.s e,.s f,.s g] (q (w64 (t+1)) D/\s (w64 (t+1)) D < s t u)))) (eS o.size 86 [.i h,.i i,.i j,.i k,.s l,.s n] (eS m.size 84 [.i b,.i c,.i d,.s e,.s f,.s g] (q (w64 (t+1)) B/\s (w64 (t+1)) B < s t u))))))))) (R (vb true) u)))):cV q3q [vp a.1 a.2,.agg #[vi b,vi c,vi d,Sl.v e,Sl.v f,Sl.v g],.agg #[vi h,vi i,vi j,vi k,Sl.v l,Sl.v n]] m R:=vcs (dl:=[4,5]) (A1:=[(2,[(7,.I)])]) (A2:=[]) (A3:=[(2,[51,50])]) (args:=[.c (.p a.1 a.2),.agg [.i b,.i c,.i d,.s e,.s f,.s g],.agg [.i h,.i i,.i j,.i k,.s l,.s n]]) Tryz.func161 h'

theorem qju (a:Sl) (h' :
 ∃ (b:Int->Mem->Prop) (c:Int->Mem->Nat),
 b 0 m /\
 (∀ d e,b d e ->
 iP (decide (d < a.len)) (0<=d/\d < a.len /\
 ∃ f:Int,gcell e a.blk (a.off+d.toNat*1)=some (vi f) /\
 iP (f != 0) (R (vb false) e) (b (w64 (d+1)) e/\c (w64 (d+1)) e < c d e)) (R (vb true) e))):cV q3v [Sl.v a] m R:=vcs (dl:=[]) (A1:=[(2,[(3,.I)])]) (A2:=[]) (A3:=[]) (args:=[.c (.s a)]) Tryz.func162 h'

theorem qb6 (a:Nat × Nat) (b:Int) (h' :
 rS m a.1 (a.2+2+5) fun c=>
 dB q1w [Sl.v c,vi b] m fun d e=>
 iP (!d) (R (vb false) e) (cV q0z [vp a.1 a.2,vi b] e fun f g=>
 ∃ h:Int,∃ i:Int,∃ j:Sl,f=.agg #[vi h,vi i,Sl.v j] /\
 let k:=g.push (.cells (vals [.i 0,.i 0,.s Sl.nil]) 149)
 eT g.size (let l:=scells k g.size 0 [.i h,.i i,.s j]
 eT g.size (rS l a.1 a.2 fun n=>
 cI q4y [Sl.v n] [g.size] l fun o p=>
 gk p l g.size 1 /\
 rS p a.1 (a.2+1) fun q=>
 cB q0d [vi (w64 (i - o)),vi 0,vi (w64 ((q.len:Int) - 1))] [g.size] p fun s t=>
 iP s (rS t a.1 (a.2+1) fun u=>
 rg (w64 (i - o)) u (rS t u.blk (u.off+Int.toNat (w64 (i - o))*5) fun v=>
 eT g.size (iP ((v.len:Int) == (w64 ((j.len:Int)+1))) (rS t a.1 (a.2+1) fun x=>
 rg (w64 (i - o)) x (rS t x.blk (x.off+Int.toNat (w64 (i - o))*5+1) fun y=>
 iP ((y.len:Int) == 0) (eT g.size (iP (h == 1) (R (vb true) t) (eT g.size (cS q4a [Sl.v j] [g.size] t fun z A=>
 cB q3e [vp a.1 a.2,Sl.v z] [g.size] A fun B C=>
 R (vb B) C)))) (R (vb false) t))) (R (vb false) t)))) (R (vb false) t))))):cV q4r [vp a.1 a.2,vi b] m R:=vcs (dl:=[4,5]) (A1:=[]) (A2:=[]) (A3:=[]) (args:=[.c (.p a.1 a.2),.c (.i b)]) Tryz.func163 h'

theorem qky (a:Sl) (b:Int) (h' :
 cV q0d [vi (w64 (b - 1000)),vi 0,vi (w64 ((a.len:Int) - 1))] m fun c d=>
 ∃ e:Bool,c=vb e /\
 iP e (cV q13 [vi b] d fun f g=>
 ∃ h:Bool,f=vb h /\
 iP h (0<=(w64 (b - 1000))/\(w64 (b - 1000)) < (a.len:Int) /\
 ∃ i:Int,gcell g a.blk (a.off+Int.toNat (w64 (b - 1000))*3)=some (vi i) /\
 R (vb (decide (i > 0))) g) (R (vb false) g)) (R (vb false) d)):cV q1w [Sl.v a,vi b] m R:=vcs (dl:=[]) (A1:=[]) (A2:=[]) (A3:=[]) (args:=[.c (.s a),.c (.i b)]) Tryz.func164 h'

theorem qcf (a:Nat × Nat) (b:Int) (h' :
 let c:=m.push (.cells (vals [.i 0,.i 0,.s Sl.nil]) 149)
 rS c a.1 (a.2+2+5) fun d=>
 rg (w64 (b - 1000)) d (rI c d.blk (d.off+Int.toNat (w64 (b - 1000))*3) fun e=>
 rI c d.blk (d.off+Int.toNat (w64 (b - 1000))*3+1) fun f=>
 rS c d.blk (d.off+Int.toNat (w64 (b - 1000))*3+2) fun g=>
 eT m.size (let h:=scells c m.size 0 [.i e,.i f,.s g]
 eT m.size (R (.agg #[vi e,vi f,Sl.v g]) h)))):cV q0z [vp a.1 a.2,vi b] m R:=vcs (dl:=[]) (A1:=[]) (A2:=[]) (A3:=[]) (args:=[.c (.p a.1 a.2),.c (.i b)]) Tryz.func165 h'

theorem qc1 (a:Nat × Nat) (b c d:Int) (e f g:Sl) (h i j k:Int) (l n:Sl) (h' :
 let o:=m.push (.cells (vals [.i b,.i c,.i d,.s e,.s f,.s g]) 84)
 let p:=o.push (.cells (vals [.i h,.i i,.i j,.i k,.s l,.s n]) 86)
 eT m.size (eT o.size (rg 0 l (rI p l.blk (l.off+Int.toNat 0*1) fun q=>
 rg q e (rI p e.blk (e.off+q.toNat*1) fun s=>
 rS p a.1 (a.2+2+5) fun t=>
 cB q1w [Sl.v t,vi s] [o.size,m.size] p fun u v=>
 iP (!u) (R (vb false) v) (cV q0z [vp a.1 a.2,vi s] v fun x y=>
 Sam [o.size,m.size] v y /\
 ∃ z:Int,∃ A:Int,∃ B:Sl,x=.agg #[vi z,vi A,Sl.v B] /\
 cS q4a [Sl.v B] [o.size,m.size] y fun C D=>
 eT m.size (eT o.size ((0:Int)<=(1:Int)/\1<=(l.len:Int)/\(l.len:Int)<=(l.cap:Int) /\
 cS q5b [.agg #[vi b,vi c,vi d,Sl.v e,Sl.v f,Sl.v g],Sl.v (Sl.cut l (Int.toNat 1) (Int.toNat (l.len:Int)) 1)] [o.size,m.size] D fun E F=>
 cB q9k [Sl.v C,Sl.v E] [o.size,m.size] F fun G H=>
 iP G (cV q0z [vp a.1 a.2,vi s] H fun J K=>
 Sam [o.size,m.size] H K /\
 ∃ L:Int,∃ M:Int,∃ N:Sl,J=.agg #[vi L,vi M,Sl.v N] /\
 iP (L == 1) (eT o.size (iP (h == 16) (R (vb true) K) (eT m.size (eT o.size (rg 0 l (rI K l.blk (l.off+Int.toNat 0*1) fun O=>
 rg O g (rI K g.blk (g.off+O.toNat*1) fun P=>
 R (vb (P == 0)) K))))))) (cB q3e [vp a.1 a.2,Sl.v C] [o.size,m.size] K fun O P=>
 iP O (eT o.size (iP (h == 16) (R (vb true) P) (eT m.size (eT o.size (rg 0 l (rI P l.blk (l.off+Int.toNat 0*1) fun Q=>
 rg Q g (rI P g.blk (g.off+Q.toNat*1) fun S=>
 R (vb (S == 0)) P))))))) (R (vb false) P))) (R (vb false) H))))))))):cV q5a [vp a.1 a.2,.agg #[vi b,vi c,vi d,Sl.v e,Sl.v f,Sl.v g],.agg #[vi h,vi i,vi j,vi k,Sl.v l,Sl.v n]] m R:=vcs (dl:=[1,5]) (A1:=[]) (A2:=[]) (A3:=[]) (args:=[.c (.p a.1 a.2),.agg [.i b,.i c,.i d,.s e,.s f,.s g],.agg [.i h,.i i,.i j,.i k,.s l,.s n]]) Tryz.func166 h'

theorem qo3 (a:Sl) (b:Int) (h' :
 ∃ (c:Int->Mem->Prop) (d:Int->Mem->Nat),
 c 0 m /\
 (∀ e f,c e f ->
 iP (decide (e < a.len)) (0<=e/\e < a.len /\
 ∃ g:Int,gcell f a.blk (a.off+e.toNat*1)=some (vi g) /\
 iP (g == b) (R (vb true) f) (c (w64 (e+1)) f/\d (w64 (e+1)) f < d e f)) (R (vb false) f))):cV q61 [Sl.v a,vi b] m R:=vcs (dl:=[]) (A1:=[(2,[(5,.I)])]) (A2:=[]) (A3:=[]) (args:=[.c (.s a),.c (.i b)]) Tryz.func167 h'

theorem ql1 (a:Sl) (b:Int) (h' :
 let c:=m.push (.cells (vals []) 3)
 cV q0d [vi b,vi 1,vi (a.len:Int)] c fun d e=>
 ∃ f:Bool,d=vb f /\
 iP (!f) (R (Sl.v (Sl.mk m.size 0 0 0)) e) (∃ (g:Sl->Int->Mem->Prop) (h:Sl->Int->Mem->Nat),
 g (Sl.mk m.size 0 0 0) 0 e /\
 (∀ i j k,g i j k ->
 0<=(w64 (b - 1))/\(w64 (b - 1)) < (a.len:Int) /\
 ∃ l:Sl,gcell k a.blk (a.off+Int.toNat (w64 (b - 1))*3+2)=some (Sl.v l) /\
 iP (decide (j < l.len)) (cV q44 [Sl.v a,vi (w64 (b - 1))] k fun n o=>
 ∃ p:Int,n=vi p /\
 let q:=o.push (.cells (vals [.i (w64 (p+j))]) 3)
 appC q 3 [.i 0] 8 i (Sl.mk o.size 0 1 1) fun s t =>
 g s (w64 (j+1)) t/\h s (w64 (j+1)) t < h i j k) (R (Sl.v i) k)))):cV q7v [Sl.v a,vi b] m R:=vcs (dl:=[]) (A1:=[(5,[(5,.S),(6,.I)])]) (A2:=[]) (A3:=[]) (args:=[.c (.s a),.c (.i b)]) Tryz.func168 h'

theorem qck (a:Nat × Nat) (b c:Int) (h' :
 rS m a.1 (a.2+2+6) fun d=>
 rS m a.1 (a.2+2+6) fun e=>
 rg (w64 ((d.len:Int) - 1)) e (rI m e.blk (e.off+Int.toNat (w64 ((d.len:Int) - 1))*6) fun f=>
 rI m e.blk (e.off+Int.toNat (w64 ((d.len:Int) - 1))*6+1) fun g=>
 rI m e.blk (e.off+Int.toNat (w64 ((d.len:Int) - 1))*6+2) fun h=>
 rS m e.blk (e.off+Int.toNat (w64 ((d.len:Int) - 1))*6+3) fun i=>
 rS m e.blk (e.off+Int.toNat (w64 ((d.len:Int) - 1))*6+4) fun j=>
 rS m e.blk (e.off+Int.toNat (w64 ((d.len:Int) - 1))*6+5) fun k=>
 let l:=m.push (.cells (vals [.i 0,.i 0,.i 0,.s Sl.nil,.s Sl.nil,.s Sl.nil]) 84)
 eT m.size (let n:=scells l m.size 0 [.i f,.i g,.i h,.s i,.s j,.s k]
 eT m.size (rg b i (wrOk n i.blk (i.off+b.toNat*1) 1 /\
 let o:=scells n i.blk (i.off+b.toNat*1) [.i c]
 Sam [m.size] n o /\
 eT m.size (rg b j (wrOk o j.blk (j.off+b.toNat*1) 1 /\
 let p:=scells o j.blk (j.off+b.toNat*1) [.i 0]
 Sam [m.size] o p /\
 eT m.size (cV q0s [vp a.1 a.2,vi (w64 (g+1))] p fun q s=>
 Sam [m.size] p s /\
 R (.tuple #[]) s)))))))):cV q27 [vp a.1 a.2,vi b,vi c] m R:=vcs (dl:=[]) (A1:=[]) (A2:=[]) (A3:=[]) (args:=[.c (.p a.1 a.2),.c (.i b),.c (.i c)]) Tryz.func169 h'

theorem qou (a b c:Int) (h' :
 iP (a == 1) (cV q6i [vi (w64 (b+c))] m fun d e=>
 ∃ f:Int,d=vi f /\
 R (vi f) e) (iP (a == 2) (cV q6i [vi (w64 (b - c))] m fun d e=>
 ∃ f:Int,d=vi f /\
 R (vi f) e) (iP (a == 3) (cV q6i [vi (w64 (b*c))] m fun d e=>
 ∃ f:Int,d=vi f /\
 R (vi f) e) (iP (a == 4) (iP (decide (b < c)) (R (vi 1) m) (R (vi 0) m)) (R (vi 0) m))))):cV qem [vi a,vi b,vi c] m R:=vcs (dl:=[]) (A1:=[]) (A2:=[]) (A3:=[]) (args:=[.c (.i a),.c (.i b),.c (.i c)]) Tryz.func170 h'

theorem qau (a:Nat × Nat) (b c d:Int) (e f g:Sl) (h i j k:Int) (l n:Sl) (o:Int) (h' :
 let p:=m.push (.cells (vals [.i b,.i c,.i d,.s e,.s f,.s g]) 84)
 let q:=p.push (.cells (vals [.i h,.i i,.i j,.i k,.s l,.s n]) 86)
 rS q a.1 (a.2+2+5) fun s=>
 cI q85 [Sl.v s] [p.size,m.size] q fun t u=>
 ∃ v:Int->Mem->Prop,
 (eT p.size (iP (decide (k > 0)) (eT m.size (eT p.size (rg (w64 (k - 1)) g (rI u g.blk (g.off+Int.toNat (w64 (k - 1))*1) fun x=>
 iP (x != 0) (eT m.size (eT p.size (rg (w64 (k - 1)) g (rI u g.blk (g.off+Int.toNat (w64 (k - 1))*1) fun y=>
 eT m.size (eT p.size (rg (w64 (k - 1)) g (wrOk u g.blk (g.off+Int.toNat (w64 (k - 1))*1) 1 /\
 let z:=scells u g.blk (g.off+Int.toNat (w64 (k - 1))*1) [.i 0]
 Sam [p.size,m.size] u z /\
 eS p.size 86 [.i h,.i i,.i j,.i k,.s l,.s n] (eS m.size 84 [.i b,.i c,.i d,.s e,.s f,.s g] (v (w64 (y - 1000)) z))))))))) (eS p.size 86 [.i h,.i i,.i j,.i k,.s l,.s n] (eS m.size 84 [.i b,.i c,.i d,.s e,.s f,.s g] (v t u))))))) (eS p.size 86 [.i h,.i i,.i j,.i k,.s l,.s n] (eS m.size 84 [.i b,.i c,.i d,.s e,.s f,.s g] (v t u))))) /\
 (∀ x y,v x y ->
 rS y a.1 (a.2+2+5) fun z=>
 eT m.size (eT p.size (cS q5b [.agg #[vi b,vi c,vi d,Sl.v e,Sl.v f,Sl.v g],Sl.v l] [p.size,m.size] y fun A B=>
 gk B y a.1 (a.2+2+5) /\
 cS qd7 [Sl.v z,vi x,vi o,Sl.v A] [p.size,m.size] B fun C D=>
 wrOk D a.1 (a.2+2+5) 1 /\
 let E:=scells D a.1 (a.2+2+5) [.s C]
 Sam [p.size,m.size] D E /\
 eT p.size (cV q38 [vp a.1 a.2,vi i,vi (w64 (1000+x))] E fun F G=>
 Sam [p.size,m.size] E G /\
 eT m.size (cV q0s [vp a.1 a.2,vi (w64 (c+1))] G fun H J=>
 Sam [p.size,m.size] G J /\
 R (.tuple #[]) J)))))):cV q3k [vp a.1 a.2,.agg #[vi b,vi c,vi d,Sl.v e,Sl.v f,Sl.v g],.agg #[vi h,vi i,vi j,vi k,Sl.v l,Sl.v n],vi o] m R:=vcs (dl:=[5]) (A1:=[]) (A2:=[(5,[(8,.I)])]) (A3:=[(5,[75,74])]) (args:=[.c (.p a.1 a.2),.agg [.i b,.i c,.i d,.s e,.s f,.s g],.agg [.i h,.i i,.i j,.i k,.s l,.s n],.c (.i o)]) Tryz.func171 h'

theorem qhq (a:Sl) (h' :
 ∃ (b:Int->Int->Mem->Prop) (c:Int->Int->Mem->Nat),
 b 0 0 m /\
 (∀ d e f,b d e f ->
 iP (decide (e < a.len)) (0<=e/\e < a.len /\
 ∃ g:Sl,gcell f a.blk (a.off+e.toNat*3+2)=some (Sl.v g) /\
 b (w64 (d+(g.len:Int))) (w64 (e+1)) f/\c (w64 (d+(g.len:Int))) (w64 (e+1)) f < c d e f) (R (vi d) f))):cV q4y [Sl.v a] m R:=vcs (dl:=[]) (A1:=[(3,[(3,.I),(4,.I)])]) (A2:=[]) (A3:=[]) (args:=[.c (.s a)]) Tryz.func172 h'

end
section
set_option linter.unusedVariables false
set_option maxRecDepth 100000
variable {m:Mem} {R:Value->Mem->Prop}
theorem qdd (a:Nat × Nat) (b c d:Int) (e f g:Sl) (h i j k:Int) (l n:Sl) (h' :
 let o:=m.push (.cells (vals [.i b,.i c,.i d,.s e,.s f,.s g]) 84)
 let p:=o.push (.cells (vals [.i h,.i i,.i j,.i k,.s l,.s n]) 86)
 eT o.size (eT m.size (eT o.size (cS q5b [.agg #[vi b,vi c,vi d,Sl.v e,Sl.v f,Sl.v g],Sl.v l] [o.size,m.size] p fun q s=>
 ∃ t:Int->Sl->Mem->Prop,
 (eT o.size (iP (h == 11) (rg 0 q (rI s q.blk (q.off+Int.toNat 0*1) fun u=>
 rS s a.1 a.2 fun v=>
 cV q0z [vp a.1 a.2,vi u] s fun x y=>
 Sam [o.size,m.size] s y /\
 ∃ z:Int,∃ A:Int,∃ B:Sl,x=.agg #[vi z,vi A,Sl.v B] /\
 gk y s a.1 a.2 /\
 cI q4y [Sl.v v] [o.size,m.size] y fun C D=>
 (0:Int)<=(1:Int)/\1<=(q.len:Int)/\(q.len:Int)<=(q.cap:Int) /\
 cV q0z [vp a.1 a.2,vi u] D fun E F=>
 Sam [o.size,m.size] D F /\
 ∃ G:Int,∃ H:Int,∃ J:Sl,E=.agg #[vi G,vi H,Sl.v J] /\
 cS qbr [Sl.v J,Sl.v (Sl.cut q (Int.toNat 1) (Int.toNat (q.len:Int)) 1)] [o.size,m.size] F fun K L=>
 cB q46 [vp a.1 a.2,vi u] [o.size,m.size] L fun M N=>
 iP M (rS N a.1 (a.2+2+5) fun O=>
 let P:=N.push (.cells (vals []) 3)
 rg (w64 (u - 1000)) O (wrOk P O.blk (O.off+Int.toNat (w64 (u - 1000))*3) 3 /\
 let Q:=scells P O.blk (O.off+Int.toNat (w64 (u - 1000))*3) [.i 0,.i 0,.s (Sl.mk N.size 0 0 0)]
 Sam [o.size,m.size] P Q /\
 rS Q a.1 (a.2+2+5) fun S=>
 cS q7p [Sl.v S] [o.size,m.size] Q fun T U=>
 wrOk U a.1 (a.2+2+5) 1 /\
 let V:=scells U a.1 (a.2+2+5) [.s T]
 Sam [o.size,m.size] U V /\
 eS o.size 86 [.i h,.i i,.i j,.i k,.s l,.s n] (eS m.size 84 [.i b,.i c,.i d,.s e,.s f,.s g] (t (w64 (A - C)) K V)))) (eS o.size 86 [.i h,.i i,.i j,.i k,.s l,.s n] (eS m.size 84 [.i b,.i c,.i d,.s e,.s f,.s g] (t (w64 (A - C)) K N))))) (eS o.size 86 [.i h,.i i,.i j,.i k,.s l,.s n] (eS m.size 84 [.i b,.i c,.i d,.s e,.s f,.s g] (t j q s))))) /\
 (∀ u v x,t u v x ->
 rI x a.1 (a.2+2+2) fun y=>
 wrOk x a.1 (a.2+2+2) 1 /\
 let z:=scells x a.1 (a.2+2+2) [.i (w64 (y+1))]
 Sam [o.size,m.size] x z /\
 rS z a.1 a.2 fun A=>
 rS z a.1 (a.2+1) fun B=>
 eT o.size (eT o.size ((cS q2o [vp a.1 a.2,.agg #[vi h,vi i,vi j,vi k,Sl.v l,Sl.v n],Sl.v v] [o.size,m.size] z fun C D=>
 gk D z o.size 1 /\
 gk D z a.1 a.2 /\
 gk D z a.1 (a.2+1) /\
 (cV q4j [.agg #[Sl.v A,Sl.v B],vi u,vi i,Sl.v v,Sl.v C] D fun E F=>
 Sam [o.size,m.size] D F /\
 ∃ G:Int,∃ H:Int,∃ J:Int,∃ K:Sl,∃ L:Sl,∃ M:Sl,E=.agg #[vi G,vi H,vi J,Sl.v K,Sl.v L,Sl.v M] /\
 let N:=F.push (.cells (vals [.i 0,.i 0,.i 0,.s Sl.nil,.s Sl.nil,.s Sl.nil]) 84)
 gk N F o.size 0 /\
 gk N F o.size 1 /\
 gk N F o.size 2 /\
 gk N F o.size 3 /\
 gk N F o.size 4 /\
 gk N F o.size 5 /\
 gk N F o.size 1 /\
 gk N F a.1 a.2 /\
 gk N F a.1 (a.2+1) /\
 eT F.size (let O:=scells N F.size 0 [.i G,.i H,.i J,.s K,.s L,.s M]
 eT o.size (iP (h == 24) (eT m.size (eT F.size (let P:=scells O F.size 2 [.i d]
 rS P a.1 (a.2+2+6) fun Q=>
 rS P a.1 (a.2+2+6) fun S=>
 eT F.size (rg (w64 ((S.len:Int) - 1)) Q (wrOk P Q.blk (Q.off+Int.toNat (w64 ((S.len:Int) - 1))*6) 6 /\
 let T:=scells P Q.blk (Q.off+Int.toNat (w64 ((S.len:Int) - 1))*6) [.i G,.i H,.i d,.s K,.s L,.s M]
 Sam [F.size,o.size,m.size] P T /\
 R (.tuple #[]) T))))) (eT m.size (cV q0s [vp a.1 a.2,vi (w64 (c+1))] O fun P Q=>
 Sam [F.size,o.size,m.size] O Q /\
 rS Q a.1 (a.2+2+6) fun S=>
 eT F.size (let T:=Q.push (.cells (vals [.i G,.i H,.i J,.s K,.s L,.s M]) 84)
 gk T Q a.1 (a.2+2+6) /\
 appC T 84 [.i 0,.i 0,.i 0,.s Sl.nil,.s Sl.nil,.s Sl.nil] 96 S (Sl.mk Q.size 0 1 1) fun U V =>
 Sam [F.size,o.size,m.size] T V /\
 wrOk V a.1 (a.2+2+6) 1 /\
 let W:=scells V a.1 (a.2+2+6) [.s U]
 Sam [F.size,o.size,m.size] V W /\
 R (.tuple #[]) W)))))) /\
 (let E:=D.push (.cells (vals [.i 0,.i 0,.i 0,.s Sl.nil,.s Sl.nil,.s Sl.nil]) 84)
 gk E D o.size 0 /\
 gk E D o.size 1 /\
 gk E D o.size 2 /\
 gk E D o.size 3 /\
 gk E D o.size 4 /\
 gk E D o.size 5 /\
 gk E D o.size 1 /\
 gk E D a.1 a.2 /\
 gk E D a.1 (a.2+1) /\
 cV q4j [.agg #[Sl.v A,Sl.v B],vi u,vi i,Sl.v v,Sl.v C] E fun F G=>
 Sam [D.size,o.size,m.size] E G /\
 ∃ H:Int,∃ J:Int,∃ K:Int,∃ L:Sl,∃ M:Sl,∃ N:Sl,F=.agg #[vi H,vi J,vi K,Sl.v L,Sl.v M,Sl.v N] /\
 eT D.size (let O:=scells G D.size 0 [.i H,.i J,.i K,.s L,.s M,.s N]
 eT o.size (iP (h == 24) (eT m.size (eT D.size (let P:=scells O D.size 2 [.i d]
 rS P a.1 (a.2+2+6) fun Q=>
 rS P a.1 (a.2+2+6) fun S=>
 eT D.size (rg (w64 ((S.len:Int) - 1)) Q (wrOk P Q.blk (Q.off+Int.toNat (w64 ((S.len:Int) - 1))*6) 6 /\
 let T:=scells P Q.blk (Q.off+Int.toNat (w64 ((S.len:Int) - 1))*6) [.i H,.i J,.i d,.s L,.s M,.s N]
 Sam [D.size,o.size,m.size] P T /\
 R (.tuple #[]) T))))) (eT m.size (cV q0s [vp a.1 a.2,vi (w64 (c+1))] O fun P Q=>
 Sam [D.size,o.size,m.size] O Q /\
 rS Q a.1 (a.2+2+6) fun S=>
 eT D.size (let T:=Q.push (.cells (vals [.i H,.i J,.i K,.s L,.s M,.s N]) 84)
 gk T Q a.1 (a.2+2+6) /\
 appC T 84 [.i 0,.i 0,.i 0,.s Sl.nil,.s Sl.nil,.s Sl.nil] 96 S (Sl.mk Q.size 0 1 1) fun U V =>
 Sam [D.size,o.size,m.size] T V /\
 wrOk V a.1 (a.2+2+6) 1 /\
 let W:=scells V a.1 (a.2+2+6) [.s U]
 Sam [D.size,o.size,m.size] V W /\
 R (.tuple #[]) W))))))) /\
 (let C:=z.push (.cells (vals [.i 0,.i 0,.i 0,.s Sl.nil,.s Sl.nil,.s Sl.nil]) 84)
 gk C z o.size 0 /\
 gk C z o.size 1 /\
 gk C z o.size 2 /\
 gk C z o.size 3 /\
 gk C z o.size 4 /\
 gk C z o.size 5 /\
 gk C z o.size 1 /\
 gk C z a.1 a.2 /\
 gk C z a.1 (a.2+1) /\
 cS q2o [vp a.1 a.2,.agg #[vi h,vi i,vi j,vi k,Sl.v l,Sl.v n],Sl.v v] [z.size,o.size,m.size] C fun D E=>
 gk E C o.size 1 /\
 gk E C a.1 a.2 /\
 gk E C a.1 (a.2+1) /\
 cV q4j [.agg #[Sl.v A,Sl.v B],vi u,vi i,Sl.v v,Sl.v D] E fun F G=>
 Sam [z.size,o.size,m.size] E G /\
 ∃ H:Int,∃ J:Int,∃ K:Int,∃ L:Sl,∃ M:Sl,∃ N:Sl,F=.agg #[vi H,vi J,vi K,Sl.v L,Sl.v M,Sl.v N] /\
 eT z.size (let O:=scells G z.size 0 [.i H,.i J,.i K,.s L,.s M,.s N]
 eT o.size (iP (h == 24) (eT m.size (eT z.size (let P:=scells O z.size 2 [.i d]
 rS P a.1 (a.2+2+6) fun Q=>
 rS P a.1 (a.2+2+6) fun S=>
 eT z.size (rg (w64 ((S.len:Int) - 1)) Q (wrOk P Q.blk (Q.off+Int.toNat (w64 ((S.len:Int) - 1))*6) 6 /\
 let T:=scells P Q.blk (Q.off+Int.toNat (w64 ((S.len:Int) - 1))*6) [.i H,.i J,.i d,.s L,.s M,.s N]
 Sam [z.size,o.size,m.size] P T /\
 R (.tuple #[]) T))))) (eT m.size (cV q0s [vp a.1 a.2,vi (w64 (c+1))] O fun P Q=>
 Sam [z.size,o.size,m.size] O Q /\
 rS Q a.1 (a.2+2+6) fun S=>
 eT z.size (let T:=Q.push (.cells (vals [.i H,.i J,.i K,.s L,.s M,.s N]) 84)
 gk T Q a.1 (a.2+2+6) /\
 appC T 84 [.i 0,.i 0,.i 0,.s Sl.nil,.s Sl.nil,.s Sl.nil] 96 S (Sl.mk Q.size 0 1 1) fun U V =>
 Sam [z.size,o.size,m.size] T V /\
 wrOk V a.1 (a.2+2+6) 1 /\
 let W:=scells V a.1 (a.2+2+6) [.s U]
 Sam [z.size,o.size,m.size] V W /\
 R (.tuple #[]) W))))))))))))):cV q5l [vp a.1 a.2,.agg #[vi b,vi c,vi d,Sl.v e,Sl.v f,Sl.v g],.agg #[vi h,vi i,vi j,vi k,Sl.v l,Sl.v n]] m R:=vcs (dl:=[5,6,11,14,16]) (A1:=[]) (A2:=[(10,[(6,.I),(7,.S)])]) (A3:=[(10,[128,127])]) (args:=[.c (.p a.1 a.2),.agg [.i b,.i c,.i d,.s e,.s f,.s g],.agg [.i h,.i i,.i j,.i k,.s l,.s n]]) Tryz.func173 h'

theorem qd8 (a:Nat × Nat) (b c d:Int) (e f g:Sl) (h:Int) (h' :
 let i:=m.push (.cells (vals [.i b,.i c,.i d,.s e,.s f,.s g]) 84)
 rS i a.1 (a.2+2+6) fun j=>
 rS i a.1 (a.2+2+6) fun k=>
 (0:Int)<=(0:Int)/\0<=(w64 ((k.len:Int) - 1))/\(w64 ((k.len:Int) - 1))<=(j.cap:Int) /\
 wrOk i a.1 (a.2+2+6) 1 /\
 let l:=scells i a.1 (a.2+2+6) [.s (Sl.cut j (Int.toNat 0) (Int.toNat (w64 ((k.len:Int) - 1))) 6)]
 Sam [m.size] i l /\
 rS l a.1 (a.2+2+6) fun n=>
 iP ((n.len:Int) == 0) (wrOk l a.1 (a.2+2) 1 /\
 let o:=scells l a.1 (a.2+2) [.i 0]
 Sam [m.size] l o /\
 wrOk o a.1 (a.2+2+1) 1 /\
 let p:=scells o a.1 (a.2+2+1) [.i h]
 Sam [m.size] o p /\
 R (.tuple #[]) p) (eT m.size (cV q38 [vp a.1 a.2,vi d,vi h] l fun o p=>
 Sam [m.size] l p /\
 R (.tuple #[]) p))):cV q5v [vp a.1 a.2,.agg #[vi b,vi c,vi d,Sl.v e,Sl.v f,Sl.v g],vi h] m R:=vcs (dl:=[1]) (A1:=[]) (A2:=[]) (A3:=[]) (args:=[.c (.p a.1 a.2),.agg [.i b,.i c,.i d,.s e,.s f,.s g],.c (.i h)]) Tryz.func174 h'

theorem qdp (a:Nat × Nat) (b:Sl) (h' :
 ∃ (c:Int->Mem->Prop) (d:Int->Mem->Nat),
 c 0 m /\
 (∀ e f,c e f ->
 iP (decide (e < b.len)) (0<=e/\e < b.len /\
 ∃ g:Int,gcell f b.blk (b.off+e.toNat*1)=some (vi g) /\
 ∃ h:Sl,gcell f a.1 (a.2+2+5)=some (Sl.v h) /\
 ∃ i:Sl,gcell f a.1 (a.2+2+5)=some (Sl.v i) /\
 0<=(w64 (g - 1000))/\(w64 (g - 1000)) < (i.len:Int) /\
 ∃ j:Int,gcell f i.blk (i.off+Int.toNat (w64 (g - 1000))*3)=some (vi j) /\
 0<=(w64 (g - 1000))/\(w64 (g - 1000)) < (h.len:Int) /\
 wrOk f h.blk (h.off+Int.toNat (w64 (g - 1000))*3) 1 /\
 let k:=scells f h.blk (h.off+Int.toNat (w64 (g - 1000))*3) [.i (w64 (j+1))]
 c (w64 (e+1)) k/\d (w64 (e+1)) k < d e f) (R (.tuple #[]) f))):cV q4g [vp a.1 a.2,Sl.v b] m R:=vcs (dl:=[4]) (A1:=[(1,[(4,.I)])]) (A2:=[]) (A3:=[]) (args:=[.c (.p a.1 a.2),.c (.s b)]) Tryz.func175 h'

theorem q73 (a:Nat × Nat) (b:Int) (h' :
 ∃ c:Sl,gcell m a.1 (a.2+2+6)=some (Sl.v c) /\
 ∃ d:Sl,gcell m a.1 (a.2+2+6)=some (Sl.v d) /\
 0<=(w64 ((d.len:Int) - 1))/\(w64 ((d.len:Int) - 1)) < (c.len:Int) /\
 wrOk m c.blk (c.off+Int.toNat (w64 ((d.len:Int) - 1))*6+1) 1 /\
 let e:=scells m c.blk (c.off+Int.toNat (w64 ((d.len:Int) - 1))*6+1) [.i b]
 R (.tuple #[]) e):cV q0s [vp a.1 a.2,vi b] m R:=vcs (dl:=[0]) (A1:=[]) (A2:=[]) (A3:=[]) (args:=[.c (.p a.1 a.2),.c (.i b)]) Tryz.func176 h'

theorem qgy (a b:Sl) (h' :
 cV q15 [Sl.v b] m fun c d=>
 ∃ e:Sl,c=Sl.v e /\
 ∃ (f:Sl->Mem->Prop) (g:Sl->Mem->Nat),
 f e d /\
 (∀ h i,f h i ->
 iP (decide ((h.len:Int) > 0)) (0<=(w64 ((h.len:Int) - 1))/\(w64 ((h.len:Int) - 1)) < (h.len:Int) /\
 ∃ j:Int,gcell i h.blk (h.off+Int.toNat (w64 ((h.len:Int) - 1))*1)=some (vi j) /\
 (0:Int)<=(0:Int)/\0<=(w64 ((h.len:Int) - 1))/\(w64 ((h.len:Int) - 1))<=(h.cap:Int) /\
 cV q13 [vi j] i fun k l=>
 ∃ n:Bool,k=vb n /\
 iP n (0<=(w64 (j - 1000))/\(w64 (j - 1000)) < (a.len:Int) /\
 ∃ o:Int,gcell l a.blk (a.off+Int.toNat (w64 (j - 1000))*3)=some (vi o) /\
 0<=(w64 (j - 1000))/\(w64 (j - 1000)) < (a.len:Int) /\
 wrOk l a.blk (a.off+Int.toNat (w64 (j - 1000))*3) 1 /\
 let p:=scells l a.blk (a.off+Int.toNat (w64 (j - 1000))*3) [.i (w64 (o - 1))]
 0<=(w64 (j - 1000))/\(w64 (j - 1000)) < (a.len:Int) /\
 ∃ q:Int,gcell p a.blk (a.off+Int.toNat (w64 (j - 1000))*3)=some (vi q) /\
 iP (q == 0) (0<=(w64 (j - 1000))/\(w64 (j - 1000)) < (a.len:Int) /\
 ∃ s:Sl,gcell p a.blk (a.off+Int.toNat (w64 (j - 1000))*3+2)=some (Sl.v s) /\
 appC p 3 [.i 0] 8 (Sl.cut h (Int.toNat 0) (Int.toNat (w64 ((h.len:Int) - 1))) 1) s fun t u =>
 let v:=u.push (.cells (vals []) 3)
 0<=(w64 (j - 1000))/\(w64 (j - 1000)) < (a.len:Int) /\
 wrOk v a.blk (a.off+Int.toNat (w64 (j - 1000))*3) 3 /\
 let x:=scells v a.blk (a.off+Int.toNat (w64 (j - 1000))*3) [.i 0,.i 0,.s (Sl.mk u.size 0 0 0)]
 f t x/\g t x < g h i) (f (Sl.cut h (Int.toNat 0) (Int.toNat (w64 ((h.len:Int) - 1))) 1) p/\g (Sl.cut h (Int.toNat 0) (Int.toNat (w64 ((h.len:Int) - 1))) 1) p < g h i)) (f (Sl.cut h (Int.toNat 0) (Int.toNat (w64 ((h.len:Int) - 1))) 1) l/\g (Sl.cut h (Int.toNat 0) (Int.toNat (w64 ((h.len:Int) - 1))) 1) l < g h i)) (cV q7p [Sl.v a] i fun j k=>
 ∃ l:Sl,j=Sl.v l /\
 R (Sl.v l) k))):cV q8l [Sl.v a,Sl.v b] m R:=vcs (dl:=[]) (A1:=[(2,[(5,.S)])]) (A2:=[]) (A3:=[]) (args:=[.c (.s a),.c (.s b)]) Tryz.func177 h'

theorem qbh (a:Nat × Nat) (b c d:Int) (e f g:Sl) (h i j k:Int) (l n:Sl) (h' :
 let o:=m.push (.cells (vals [.i b,.i c,.i d,.s e,.s f,.s g]) 84)
 let p:=o.push (.cells (vals [.i h,.i i,.i j,.i k,.s l,.s n]) 86)
 eT o.size (rg 0 l (rI p l.blk (l.off+Int.toNat 0*1) fun q=>
 eT m.size (rg q e (rI p e.blk (e.off+q.toNat*1) fun s=>
 ∃ (t:Int->Mem->Prop) (u:Int->Mem->Nat),
 t 1 p /\
 (∀ v x,t v x ->
 eT o.size (iP (decide (v < l.len)) (eT m.size (eT o.size (rg v l (rI x l.blk (l.off+v.toNat*1) fun y=>
 eT m.size (eT o.size (rg v l (rI x l.blk (l.off+v.toNat*1) fun z=>
 rg z f (rI x f.blk (f.off+z.toNat*1) fun A=>
 rg y f (wrOk x f.blk (f.off+y.toNat*1) 1 /\
 let B:=scells x f.blk (f.off+y.toNat*1) [.i (w64 (A+1))]
 Sam [o.size,m.size] x B /\
 eS o.size 86 [.i h,.i i,.i j,.i k,.s l,.s n] (eS m.size 84 [.i b,.i c,.i d,.s e,.s f,.s g] (t (w64 (v+1)) B/\u (w64 (v+1)) B < u v x))))))))))) (eT m.size (rg q e (rI x e.blk (e.off+q.toNat*1) fun y=>
 cB q46 [vp a.1 a.2,vi y] [o.size,m.size] x fun z A=>
 iP z (eT o.size (iP (h == 17) (rS A a.1 (a.2+2+5) fun B=>
 rS A a.1 (a.2+2+5) fun C=>
 rg (w64 (s - 1000)) C (rS A C.blk (C.off+Int.toNat (w64 (s - 1000))*3+2) fun D=>
 cS q5c [vi (D.len:Int)] [o.size,m.size] A fun E F=>
 gk F A a.1 (a.2+2+5) /\
 rg (w64 (s - 1000)) B (wrOk F B.blk (B.off+Int.toNat (w64 (s - 1000))*3) 3 /\
 let G:=scells F B.blk (B.off+Int.toNat (w64 (s - 1000))*3) [.i (-1),.i 0,.s E]
 Sam [o.size,m.size] F G /\
 eT m.size (eT m.size (rg q e (rI G e.blk (e.off+q.toNat*1) fun H=>
 rg q g (wrOk G g.blk (g.off+q.toNat*1) 1 /\
 let J:=scells G g.blk (g.off+q.toNat*1) [.i H]
 Sam [o.size,m.size] G J /\
 eT m.size (cV q0s [vp a.1 a.2,vi (w64 (c+1))] J fun K L=>
 Sam [o.size,m.size] J L /\
 R (.tuple #[]) L)))))))) (rS A a.1 (a.2+2+5) fun B=>
 let C:=A.push (.cells (vals []) 3)
 rg (w64 (s - 1000)) B (wrOk C B.blk (B.off+Int.toNat (w64 (s - 1000))*3) 3 /\
 let D:=scells C B.blk (B.off+Int.toNat (w64 (s - 1000))*3) [.i 0,.i 0,.s (Sl.mk A.size 0 0 0)]
 Sam [o.size,m.size] C D /\
 rS D a.1 (a.2+2+5) fun E=>
 cS q7p [Sl.v E] [o.size,m.size] D fun F G=>
 wrOk G a.1 (a.2+2+5) 1 /\
 let H:=scells G a.1 (a.2+2+5) [.s F]
 Sam [o.size,m.size] G H /\
 eT m.size (cV q0s [vp a.1 a.2,vi (w64 (c+1))] H fun J K=>
 Sam [o.size,m.size] H K /\
 R (.tuple #[]) K))))) (eT m.size (cV q0s [vp a.1 a.2,vi (w64 (c+1))] A fun B C=>
 Sam [o.size,m.size] A C /\
 R (.tuple #[]) C)))))))))))):cV q4q [vp a.1 a.2,.agg #[vi b,vi c,vi d,Sl.v e,Sl.v f,Sl.v g],.agg #[vi h,vi i,vi j,vi k,Sl.v l,Sl.v n]] m R:=vcs (dl:=[6,9,10]) (A1:=[(4,[(8,.I)])]) (A2:=[]) (A3:=[(4,[111,110])]) (args:=[.c (.p a.1 a.2),.agg [.i b,.i c,.i d,.s e,.s f,.s g],.agg [.i h,.i i,.i j,.i k,.s l,.s n]]) Tryz.func178 h'

theorem qcl (a:Nat × Nat) (b c:Int) (h' :
 rS m a.1 (a.2+2+6) fun d=>
 rS m a.1 (a.2+2+6) fun e=>
 rg (w64 ((d.len:Int) - 1)) e (rI m e.blk (e.off+Int.toNat (w64 ((d.len:Int) - 1))*6) fun f=>
 rI m e.blk (e.off+Int.toNat (w64 ((d.len:Int) - 1))*6+1) fun g=>
 rI m e.blk (e.off+Int.toNat (w64 ((d.len:Int) - 1))*6+2) fun h=>
 rS m e.blk (e.off+Int.toNat (w64 ((d.len:Int) - 1))*6+3) fun i=>
 rS m e.blk (e.off+Int.toNat (w64 ((d.len:Int) - 1))*6+4) fun j=>
 rS m e.blk (e.off+Int.toNat (w64 ((d.len:Int) - 1))*6+5) fun k=>
 let l:=m.push (.cells (vals [.i 0,.i 0,.i 0,.s Sl.nil,.s Sl.nil,.s Sl.nil]) 84)
 eT m.size (let n:=scells l m.size 0 [.i f,.i g,.i h,.s i,.s j,.s k]
 eT m.size (rg b i (wrOk n i.blk (i.off+b.toNat*1) 1 /\
 let o:=scells n i.blk (i.off+b.toNat*1) [.i c]
 Sam [m.size] n o /\
 eT m.size (rg b j (wrOk o j.blk (j.off+b.toNat*1) 1 /\
 let p:=scells o j.blk (j.off+b.toNat*1) [.i 0]
 Sam [m.size] o p /\
 cB q13 [vi c] [m.size] p fun q s=>
 iP q (eT m.size (rg b j (wrOk s j.blk (j.off+b.toNat*1) 1 /\
 let t:=scells s j.blk (j.off+b.toNat*1) [.i 1]
 Sam [m.size] s t /\
 R (.tuple #[]) t))) (R (.tuple #[]) s)))))))):cV q38 [vp a.1 a.2,vi b,vi c] m R:=vcs (dl:=[]) (A1:=[]) (A2:=[]) (A3:=[]) (args:=[.c (.p a.1 a.2),.c (.i b),.c (.i c)]) Tryz.func179 h'

theorem qhw (a:Sl) (b:Int) (h' :
 ∃ (c:Int->Int->Mem->Prop) (d:Int->Int->Mem->Nat),
 c 0 0 m /\
 (∀ e f g,c e f g ->
 iP (decide (f < b)) (0<=f/\f < a.len /\
 ∃ h:Sl,gcell g a.blk (a.off+f.toNat*3+2)=some (Sl.v h) /\
 c (w64 (e+(h.len:Int))) (w64 (f+1)) g/\d (w64 (e+(h.len:Int))) (w64 (f+1)) g < d e f g) (R (vi e) g))):cV q44 [Sl.v a,vi b] m R:=vcs (dl:=[]) (A1:=[(3,[(5,.I),(6,.I)])]) (A2:=[]) (A3:=[]) (args:=[.c (.s a),.c (.i b)]) Tryz.func180 h'

theorem qn6 (a:Int) (h' :
 iP (decide (a ≥ (-999))) (R (vb (decide (a<=999))) m) (R (vb false) m)):cV q5e [vi a] m R:=vcs (dl:=[]) (A1:=[]) (A2:=[]) (A3:=[]) (args:=[.c (.i a)]) Tryz.func181 h'

end
section
set_option linter.unusedVariables false
set_option maxRecDepth 100000
variable {m:Mem} {R:Value->Mem->Prop}
theorem qej (a:Sl) (h' :
 0<=(a.len:Int)/\(a.len:Int)<=(a.len:Int)/\((8:Nat):Int)*(a.len:Int)<=281474976710656/\(a.len:Int)<=9223372036854775807 /\
 let b:=m.push (.cells (vals (zrow [.i 0] (Int.toNat (a.len:Int)))) 3)
 ∃ (c:Int->Mem->Prop) (d:Int->Mem->Nat),
 c 0 b /\
 (∀ e f,c e f ->
 iP (decide (e < a.len)) (rg e a (rI f a.blk (a.off+e.toNat*3) fun g=>
 rI f a.blk (a.off+e.toNat*3+1) fun h=>
 rS f a.blk (a.off+e.toNat*3+2) fun i=>
 let j:=f.push (.cells (vals [.i 0,.i 0,.s Sl.nil]) 149)
 eT f.size (let k:=scells j f.size 0 [.i g,.i h,.s i]
 eT f.size (cB q88 [Sl.v a,.agg #[vi g,vi h,Sl.v i]] [f.size] k fun l n=>
 iP (!l) (R (.tuple #[Sl.v Sl.nil,vb false]) n) (eT f.size (∃ (o:Int->Mem->Prop) (p:Int->Mem->Nat),
 o 0 n /\
 (∀ q s,o q s ->
 iP (decide (q < i.len)) (rg q i (rI s i.blk (i.off+q.toNat*1) fun t=>
 cV q24 [Sl.v a,vi t] s fun u v=>
 Sam [f.size] s v /\
 ∃ x:Int,∃ y:Bool,u=.tuple #[vi x,vb y] /\
 iP y (0<=x/\x < ((Sl.mk m.size 0 (Int.toNat (a.len:Int)) (Int.toNat (a.len:Int))).len:Int) /\
 rI v ((Sl.mk m.size 0 (Int.toNat (a.len:Int)) (Int.toNat (a.len:Int))).blk) ((Sl.mk m.size 0 (Int.toNat (a.len:Int)) (Int.toNat (a.len:Int))).off+x.toNat*1) fun z=>
 0<=x/\x < ((Sl.mk m.size 0 (Int.toNat (a.len:Int)) (Int.toNat (a.len:Int))).len:Int) /\
 wrOk v ((Sl.mk m.size 0 (Int.toNat (a.len:Int)) (Int.toNat (a.len:Int))).blk) ((Sl.mk m.size 0 (Int.toNat (a.len:Int)) (Int.toNat (a.len:Int))).off+x.toNat*1) 1 /\
 let A:=scells v ((Sl.mk m.size 0 (Int.toNat (a.len:Int)) (Int.toNat (a.len:Int))).blk) ((Sl.mk m.size 0 (Int.toNat (a.len:Int)) (Int.toNat (a.len:Int))).off+x.toNat*1) [.i (w64 (z+1))]
 Sam [f.size] v A /\
 eS f.size 149 [.i g,.i h,.s i] (o (w64 (q+1)) A/\p (w64 (q+1)) A < p q s)) (eS f.size 149 [.i g,.i h,.s i] (o (w64 (q+1)) v/\p (w64 (q+1)) v < p q s)))) (c (w64 (e+1)) s/\d (w64 (e+1)) s < d e f)))))))) (∃ g:Mem->Prop,
 (iP (decide ((a.len:Int) > 0)) (rg (w64 ((a.len:Int) - 1)) a (rI f a.blk (a.off+Int.toNat (w64 ((a.len:Int) - 1))*3) fun h=>
 iP (h == 0) (R (.tuple #[Sl.v Sl.nil,vb false]) f) (g f))) (g f)) /\
 (∀ h,g h ->
 dS q11 [Sl.v (Sl.mk m.size 0 (Int.toNat (a.len:Int)) (Int.toNat (a.len:Int)))] h fun i j=>
 ∃ (k:Sl->Int->Mem->Prop) (l:Sl->Int->Mem->Nat),
 k Sl.nil 0 j /\
 (∀ n o p,k n o p ->
 iP (decide (o < a.len)) (rg o a (rI p a.blk (a.off+o.toNat*3) fun q=>
 rI p a.blk (a.off+o.toNat*3+1) fun s=>
 rS p a.blk (a.off+o.toNat*3+2) fun t=>
 let u:=p.push (.cells (vals [.i 0,.i 0,.s Sl.nil]) 149)
 eT p.size (let v:=scells u p.size 0 [.i q,.i s,.s t]
 eT p.size (iP (decide (q > 0)) (eT p.size (0<=o/\o < ((Sl.mk m.size 0 (Int.toNat (a.len:Int)) (Int.toNat (a.len:Int))).len:Int) /\
 rI v ((Sl.mk m.size 0 (Int.toNat (a.len:Int)) (Int.toNat (a.len:Int))).blk) ((Sl.mk m.size 0 (Int.toNat (a.len:Int)) (Int.toNat (a.len:Int))).off+o.toNat*1) fun x=>
 iP (decide (q < x)) (R (.tuple #[Sl.v Sl.nil,vb false]) v) (eT p.size (iP (decide (q > 999999)) (R (.tuple #[Sl.v Sl.nil,vb false]) v) (0<=o/\o < ((Sl.mk m.size 0 (Int.toNat (a.len:Int)) (Int.toNat (a.len:Int))).len:Int) /\
 rI v ((Sl.mk m.size 0 (Int.toNat (a.len:Int)) (Int.toNat (a.len:Int))).blk) ((Sl.mk m.size 0 (Int.toNat (a.len:Int)) (Int.toNat (a.len:Int))).off+o.toNat*1) fun y=>
 iP (y == 0) (let z:=v.push (.cells (vals [.i o]) 3)
 appC z 3 [.i 0] 8 n (Sl.mk v.size 0 1 1) fun A B =>
 Sam [p.size] z B /\
 k A (w64 (o+1)) B/\l A (w64 (o+1)) B < l n o p) (k n (w64 (o+1)) v/\l n (w64 (o+1)) v < l n o p)))))) (0<=o/\o < ((Sl.mk m.size 0 (Int.toNat (a.len:Int)) (Int.toNat (a.len:Int))).len:Int) /\
 rI v ((Sl.mk m.size 0 (Int.toNat (a.len:Int)) (Int.toNat (a.len:Int))).blk) ((Sl.mk m.size 0 (Int.toNat (a.len:Int)) (Int.toNat (a.len:Int))).off+o.toNat*1) fun x=>
 iP (x == 0) (let y:=v.push (.cells (vals [.i o]) 3)
 appC y 3 [.i 0] 8 n (Sl.mk v.size 0 1 1) fun z A =>
 Sam [p.size] y A /\
 k z (w64 (o+1)) A/\l z (w64 (o+1)) A < l n o p) (k n (w64 (o+1)) v/\l n (w64 (o+1)) v < l n o p)))))) (∃ (q:Sl->Int->Mem->Prop) (s:Sl->Int->Mem->Nat),
 q n 0 p /\
 (∀ t u v,q t u v ->
 iP (decide ((t.len:Int) > 0)) (rg (w64 ((t.len:Int) - 1)) t (rI v t.blk (t.off+Int.toNat (w64 ((t.len:Int) - 1))*1) fun x=>
 rg x a (rI v a.blk (a.off+x.toNat*3) fun y=>
 rI v a.blk (a.off+x.toNat*3+1) fun z=>
 rS v a.blk (a.off+x.toNat*3+2) fun A=>
 let B:=v.push (.cells (vals [.i 0,.i 0,.s Sl.nil]) 149)
 eT v.size (let C:=scells B v.size 0 [.i y,.i z,.s A]
 (0:Int)<=(0:Int)/\0<=(w64 ((t.len:Int) - 1))/\(w64 ((t.len:Int) - 1))<=(t.cap:Int) /\
 eT v.size (∃ (D:Sl->Int->Mem->Prop) (E:Sl->Int->Mem->Nat),
 D (Sl.cut t (Int.toNat 0) (Int.toNat (w64 ((t.len:Int) - 1))) 1) 0 C /\
 (∀ F G H,D F G H ->
 iP (decide (G < A.len)) (rg G A (rI H A.blk (A.off+G.toNat*1) fun J=>
 cV q24 [Sl.v a,vi J] H fun K L=>
 Sam [v.size] H L /\
 ∃ M:Int,∃ N:Bool,K=.tuple #[vi M,vb N] /\
 iP N (rg M i (rI L i.blk (i.off+M.toNat*1) fun O=>
 rg M i (wrOk L i.blk (i.off+M.toNat*1) 1 /\
 let P:=scells L i.blk (i.off+M.toNat*1) [.i (w64 (O - 1))]
 Sam [v.size] L P /\
 rg M i (rI P i.blk (i.off+M.toNat*1) fun Q=>
 iP (Q == 0) (let S:=P.push (.cells (vals [.i M]) 3)
 appC S 3 [.i 0] 8 F (Sl.mk P.size 0 1 1) fun T U =>
 Sam [v.size] S U /\
 eS v.size 149 [.i y,.i z,.s A] (D T (w64 (G+1)) U/\E T (w64 (G+1)) U < E F G H)) (eS v.size 149 [.i y,.i z,.s A] (D F (w64 (G+1)) P/\E F (w64 (G+1)) P < E F G H)))))) (eS v.size 149 [.i y,.i z,.s A] (D F (w64 (G+1)) L/\E F (w64 (G+1)) L < E F G H)))) (q F (w64 (u+1)) H/\s F (w64 (u+1)) H < s t u v))))))) (R (.tuple #[Sl.v (Sl.mk m.size 0 (Int.toNat (a.len:Int)) (Int.toNat (a.len:Int))),vb (u == (a.len:Int))]) v)))))))):cV q6o [Sl.v a] m R:=vcs (dl:=[23]) (A1:=[(3,[(26,.I)]),(8,[(37,.I)]),(21,[(12,.S),(73,.I)]),(28,[(12,.S),(13,.I)]),(33,[(12,.S),(127,.I)])]) (A2:=[(17,[])]) (A3:=[(8,[165]),(33,[175])]) (args:=[.c (.s a)]) Tryz.func182 h'

theorem qdx (a:Int) (h' :
 cV q5e [vi a] m fun b c=>
 ∃ d:Bool,b=vb d /\
 R (vb (!d)) c):cV q65 [vi a] m R:=vcs (dl:=[]) (A1:=[]) (A2:=[]) (A3:=[]) (args:=[.c (.i a)]) Tryz.func183 h'

theorem qfe (a b:Sl) (c d e:Int) (f g h:Sl) (h' :
 let i:=m.push (.cells (vals [.s a,.s b]) 35)
 let j:=i.push (.cells (vals [.i c,.i d,.i e,.s f,.s g,.s h]) 84)
 eT i.size (iP (decide (c < 0)) (R (vb false) j) (eT i.size (eT m.size (iP (decide (c ≥ b.len)) (R (vb false) j) (eT m.size (eT i.size (rg c b (rS j b.blk (b.off+c.toNat*5) fun k=>
 rS j b.blk (b.off+c.toNat*5+1) fun l=>
 rI j b.blk (b.off+c.toNat*5+2) fun n=>
 rI j b.blk (b.off+c.toNat*5+3) fun o=>
 rS j b.blk (b.off+c.toNat*5+4) fun p=>
 let q:=j.push (.cells (vals [.s Sl.nil,.s Sl.nil,.i 0,.i 0,.s Sl.nil]) 89)
 eT j.size (let s:=scells q j.size 0 [.s k,.s l,.i n,.i o,.s p]
 eT i.size (iP (decide (d < 0)) (R (vb false) s) (eT i.size (eT j.size (iP (decide (d ≥ p.len)) (R (vb false) s) (eT i.size (eT j.size (iP ((f.len:Int) != o) (R (vb false) s) (eT i.size (eT j.size (iP ((g.len:Int) != o) (R (vb false) s) (eT i.size (eT j.size (iP ((h.len:Int) != o) (R (vb false) s) (eT i.size (∃ (t:Int->Mem->Prop) (u:Int->Mem->Nat),
 t 0 s /\
 (∀ v x,t v x ->
 iP (decide (v < f.len)) (rg v f (rI x f.blk (f.off+v.toNat*1) fun y=>
 cB q5e [vi y] [j.size,i.size,m.size] x fun z A=>
 iP (!z) (iP (decide (y < 1000)) (R (vb false) A) (eT i.size (rg v g (rI A g.blk (g.off+v.toNat*1) fun B=>
 iP (decide (B < 0)) (R (vb false) A) (eT i.size (rg v g (rI A g.blk (g.off+v.toNat*1) fun C=>
 iP (decide (C > 999999)) (R (vb false) A) (eS j.size 89 [.s k,.s l,.i n,.i o,.s p] (eS i.size 84 [.i c,.i d,.i e,.s f,.s g,.s h] (eS m.size 35 [.s a,.s b] (t (w64 (v+1)) A/\u (w64 (v+1)) A < u v x))))))))))) (eT i.size (rg v g (rI A g.blk (g.off+v.toNat*1) fun B=>
 iP (decide (B < 0)) (R (vb false) A) (eT i.size (rg v g (rI A g.blk (g.off+v.toNat*1) fun C=>
 iP (decide (C > 999999)) (R (vb false) A) (eS j.size 89 [.s k,.s l,.i n,.i o,.s p] (eS i.size 84 [.i c,.i d,.i e,.s f,.s g,.s h] (eS m.size 35 [.s a,.s b] (t (w64 (v+1)) A/\u (w64 (v+1)) A < u v x)))))))))))) (R (vb true) x))))))))))))))))))))))))))):cV q7c [.agg #[Sl.v a,Sl.v b],.agg #[vi c,vi d,vi e,Sl.v f,Sl.v g,Sl.v h]] m R:=vcs (dl:=[]) (A1:=[(7,[(63,.I)])]) (A2:=[]) (A3:=[(7,[97,95,94])]) (args:=[.agg [.s a,.s b],.agg [.i c,.i d,.i e,.s f,.s g,.s h]]) Tryz.func184 h'

theorem qew (a b c:Int) (d e f g h i:Sl) (h' :
 let j:=m.push (.cells (vals [.i a,.i b,.i c,.s d,.s e,.s f]) 84)
 eT m.size (∃ (k:Int->Mem->Prop) (l:Int->Mem->Nat),
 k 0 j /\
 (∀ n o,k n o ->
 iP (decide (n < e.len)) (rg n e (rI o e.blk (e.off+n.toNat*1) fun p=>
 ∃ q:Mem->Prop,
 (iP (decide (p > 0)) (eT m.size (rg n d (rI o d.blk (d.off+n.toNat*1) fun s=>
 cV q24 [Sl.v g,vi s] o fun t u=>
 Sam [m.size] o u /\
 ∃ v:Int,∃ x:Bool,t=.tuple #[vi v,vb x] /\
 iP (!x) (R (vb false) u) (rg v h (rI u h.blk (h.off+v.toNat*1) fun y=>
 rg v h (wrOk u h.blk (h.off+v.toNat*1) 1 /\
 let z:=scells u h.blk (h.off+v.toNat*1) [.i (w64 (y+p))]
 Sam [m.size] u z /\
 eS m.size 84 [.i a,.i b,.i c,.s d,.s e,.s f] (q z))))))) (eS m.size 84 [.i a,.i b,.i c,.s d,.s e,.s f] (q o))) /\
 (∀ s,q s ->
 eT m.size (rg n f (rI s f.blk (f.off+n.toNat*1) fun t=>
 iP (t != 0) (eT m.size (rg n f (rI s f.blk (f.off+n.toNat*1) fun u=>
 iP (decide ((w64 (u - 1000)) < 0)) (R (vb false) s) (iP (decide ((w64 (u - 1000)) ≥ (g.len:Int))) (R (vb false) s) (rg (w64 (u - 1000)) g (rI s g.blk (g.off+Int.toNat (w64 (u - 1000))*3) fun v=>
 iP (decide (v ≥ 0)) (R (vb false) s) (rg (w64 (u - 1000)) i (rI s i.blk (i.off+Int.toNat (w64 (u - 1000))*1) fun x=>
 rg (w64 (u - 1000)) i (wrOk s i.blk (i.off+Int.toNat (w64 (u - 1000))*1) 1 /\
 let y:=scells s i.blk (i.off+Int.toNat (w64 (u - 1000))*1) [.i (w64 (x+1))]
 Sam [m.size] s y /\
 eS m.size 84 [.i a,.i b,.i c,.s d,.s e,.s f] (k (w64 (n+1)) y/\l (w64 (n+1)) y < l n o)))))))))) (eS m.size 84 [.i a,.i b,.i c,.s d,.s e,.s f] (k (w64 (n+1)) s/\l (w64 (n+1)) s < l n o))))))) (R (vb true) o)))):cV q6n [.agg #[vi a,vi b,vi c,Sl.v d,Sl.v e,Sl.v f],Sl.v g,Sl.v h,Sl.v i] m R:=vcs (dl:=[]) (A1:=[(2,[(17,.I)])]) (A2:=[(9,[])]) (A3:=[(2,[82]),(9,[82])]) (args:=[.agg [.i a,.i b,.i c,.s d,.s e,.s f],.c (.s g),.c (.s h),.c (.s i)]) Tryz.func185 h'

theorem q66 (a:Sl) (h' :
 iP a.isNil (R (Sl.v Sl.nil) m) (let b:=m.push (.cells (vals []) 149)
 appC b 149 [.i 0,.i 0,.s Sl.nil] 40 (Sl.mk m.size 0 0 0) a fun c d =>
 R (Sl.v c) d)):cV q2z [Sl.v a] m R:=vcs (dl:=[]) (A1:=[]) (A2:=[]) (A3:=[]) (args:=[.c (.s a)]) Tryz.func186 h'

theorem qnc (a:Sl) (b:Int) (h' :
 let c:=m.push (.cells (vals [.s a]) 222)
 eT m.size (cI q25 [Sl.v a,vi b] [m.size] c fun d e=>
 iP (decide (d < 0)) (R (vi (-1)) e) (R (vi d) e))):cV qcy [.agg #[Sl.v a],vi b] m R:=vcs (dl:=[]) (A1:=[]) (A2:=[]) (A3:=[]) (args:=[.agg [.s a],.c (.i b)]) Tryz.func187 h'

theorem qjf (a b c d:Int) (e f:Sl) (g:Int) (h' :
 let h:=m.push (.cells (vals [.i a,.i b,.i c,.i d,.s e,.s f]) 224)
 eT m.size (cI q25 [Sl.v e,vi g] [m.size] h fun i j=>
 iP (decide (i < 0)) (R (vi (-1)) j) (eT m.size (cI q25 [Sl.v f,vi i] [m.size] j fun k l=>
 iP (decide (k < 0)) (R (vi (-1)) l) (R (vi k) l))))):cV qa1 [.agg #[vi a,vi b,vi c,vi d,Sl.v e,Sl.v f],vi g] m R:=vcs (dl:=[]) (A1:=[]) (A2:=[]) (A3:=[]) (args:=[.agg [.i a,.i b,.i c,.i d,.s e,.s f],.c (.i g)]) Tryz.func188 h'

theorem qg5 (a:Sl) (b:Int) (h' :
 rg b a (rI m a.blk (a.off+b.toNat*3) fun c=>
 rI m a.blk (a.off+b.toNat*3+1) fun d=>
 rS m a.blk (a.off+b.toNat*3+2) fun e=>
 let f:=m.push (.cells (vals [.i 0,.i 0,.s Sl.nil]) 122)
 eT m.size (let g:=scells f m.size 0 [.i c,.i d,.s e]
 eT m.size (iP (decide ((e.len:Int) > 0)) (eT m.size (iP (decide ((e.len:Int) > 3)) (R (vb false) g) (eT m.size (iP (c != 0) (R (vb false) g) (eT m.size (iP (d != 0) (R (vb false) g) (∃ (h:Int->Mem->Prop) (i:Int->Mem->Nat),
 h 0 g /\
 (∀ j k,h j k ->
 eT m.size (iP (decide (j < e.len)) (eT m.size (rg j e (rS k e.blk (e.off+j.toNat*1) fun l=>
 iP (decide ((l.len:Int) > 3)) (R (vb false) k) (eT m.size (rg j e (rS k e.blk (e.off+j.toNat*1) fun n=>
 cB q6e [Sl.v a,Sl.v n] [m.size] k fun o p=>
 iP (!o) (R (vb false) p) (eS m.size 122 [.i c,.i d,.s e] (h (w64 (j+1)) p/\i (w64 (j+1)) p < i j k)))))))) (R (vb true) k)))))))))) (∃ (h:Int->Mem->Prop) (i:Int->Mem->Nat),
 h 0 g /\
 (∀ j k,h j k ->
 iP (decide (j < b)) (rg j a (rS k a.blk (a.off+j.toNat*3+2) fun l=>
 iP ((l.len:Int) == 0) (rg j a (rI k a.blk (a.off+j.toNat*3) fun n=>
 eT m.size (iP (n == c) (rg j a (rI k a.blk (a.off+j.toNat*3+1) fun o=>
 eT m.size (iP (o == d) (R (vb false) k) (eS m.size 122 [.i c,.i d,.s e] (h (w64 (j+1)) k/\i (w64 (j+1)) k < i j k))))) (eS m.size 122 [.i c,.i d,.s e] (h (w64 (j+1)) k/\i (w64 (j+1)) k < i j k))))) (eS m.size 122 [.i c,.i d,.s e] (h (w64 (j+1)) k/\i (w64 (j+1)) k < i j k)))) (eT m.size (cB q0d [vi c,vi 0,vi (a.len:Int)] [m.size] k fun l n=>
 iP l (eT m.size (cB q0d [vi d,vi 0,vi (a.len:Int)] [m.size] n fun o p=>
 R (vb o) p)) (R (vb false) n))))))))):cV q81 [Sl.v a,vi b] m R:=vcs (dl:=[14]) (A1:=[(6,[(6,.I)]),(12,[(7,.I)])]) (A2:=[]) (A3:=[(6,[105]),(12,[105])]) (args:=[.c (.s a),.c (.i b)]) Tryz.func189 h'

theorem qkc (a:Sl) (b:Int) (h' :
 ∃ (c:Int->Mem->Prop) (d:Int->Mem->Nat),
 c 0 m /\
 (∀ e f,c e f ->
 iP (decide (e < a.len)) (cV q44 [Sl.v a,vi e] f fun g h=>
 ∃ i:Int,g=vi i /\
 0<=e/\e < a.len /\
 ∃ j:Sl,gcell h a.blk (a.off+e.toNat*3+2)=some (Sl.v j) /\
 cV q0d [vi b,vi i,vi (w64 ((w64 (i+(j.len:Int))) - 1))] h fun k l=>
 ∃ n:Bool,k=vb n /\
 iP n (R (vi (w64 (e+1))) l) (c (w64 (e+1)) l/\d (w64 (e+1)) l < d e f)) (R (vi (-1)) f))):cV q6x [Sl.v a,vi b] m R:=vcs (dl:=[]) (A1:=[(2,[(5,.I)])]) (A2:=[]) (A3:=[]) (args:=[.c (.s a),.c (.i b)]) Tryz.func190 h'

theorem qfv (a:Sl) (b:Int) (h' :
 cV q6x [Sl.v a,vi b] m fun c d=>
 ∃ e:Int,c=vi e /\
 iP (decide (e < 1)) (let f:=d.push (.cells (vals []) 3)
 R (Sl.v (Sl.mk d.size 0 0 0)) f) (0<=(w64 (e - 1))/\(w64 (e - 1)) < (a.len:Int) /\
 ∃ f:Sl,gcell d a.blk (a.off+Int.toNat (w64 (e - 1))*3+2)=some (Sl.v f) /\
 cV q44 [Sl.v a,vi (w64 (e - 1))] d fun g h=>
 ∃ i:Int,g=vi i /\
 gcell h a.blk (a.off+Int.toNat (w64 (e - 1))*3+2)=gcell d a.blk (a.off+Int.toNat (w64 (e - 1))*3+2) /\
 0<=(w64 (b - i))/\(w64 (b - i)) < (f.len:Int) /\
 ∃ j:Sl,gcell h f.blk (f.off+Int.toNat (w64 (b - i))*1)=some (Sl.v j) /\
 R (Sl.v j) h)):cV q8s [Sl.v a,vi b] m R:=vcs (dl:=[4]) (A1:=[]) (A2:=[]) (A3:=[]) (args:=[.c (.s a),.c (.i b)]) Tryz.func191 h'

theorem qhk (a b:Sl) (c d e:Int) (h' :
 let f:=m.push (.cells (vals [.s a,.s b]) 35)
 eT m.size (cB q0d [vi c,vi 0,vi (w64 ((b.len:Int) - 1))] [m.size] f fun g h=>
 iP g (eT m.size (rg c b (rS h b.blk (b.off+c.toNat*5) fun i=>
 R (vb ((i.len:Int) == (w64 (d+e)))) h))) (R (vb false) h))):cV q6d [.agg #[Sl.v a,Sl.v b],vi c,vi d,vi e] m R:=vcs (dl:=[]) (A1:=[]) (A2:=[]) (A3:=[]) (args:=[.agg [.s a,.s b],.c (.i c),.c (.i d),.c (.i e)]) Tryz.func192 h'

theorem qf2 (a:Sl) (b c d:Int) (h' :
 iP ((a.len:Int) != b) (R (vb false) m) (∃ (e:Int->Mem->Prop) (f:Int->Mem->Nat),
 e 0 m /\
 (∀ g h,e g h ->
 iP (decide (g < b)) (0<=g/\g < a.len /\
 ∃ i:Int,gcell h a.blk (a.off+g.toNat*1)=some (vi i) /\
 cV q0d [vi i,vi (w64 (c+1)),vi (w64 (d - 1))] h fun j k=>
 ∃ l:Bool,j=vb l /\
 iP (!l) (R (vb false) k) (e (w64 (g+1)) k/\f (w64 (g+1)) k < f g h)) (R (vb true) h)))):cV q77 [Sl.v a,vi b,vi c,vi d] m R:=vcs (dl:=[]) (A1:=[(4,[(9,.I)])]) (A2:=[]) (A3:=[]) (args:=[.c (.s a),.c (.i b),.c (.i c),.c (.i d)]) Tryz.func193 h'

theorem qms (a:Int) (h' :
 0<=a/\a<=a/\((8:Nat):Int)*a<=281474976710656/\a<=9223372036854775807 /\
 let b:=m.push (.cells (vals (zrow [.i 0] (a.toNat))) 3)
 R (Sl.v (Sl.mk m.size 0 (a.toNat) (a.toNat))) b):cV q5c [vi a] m R:=vcs (dl:=[]) (A1:=[]) (A2:=[]) (A3:=[]) (args:=[.c (.i a)]) Tryz.func194 h'

theorem qmf (a:Sl) (h' :
 let b:=m.push (.cells (vals [.s a]) 222)
 let c:=b.push (.cells (vals [.s Sl.nil]) 201)
 let d:=c.push (.cells (vals [.s Sl.nil]) 201)
 eT m.size (cS q23 [Sl.v a] [c.size,b.size,m.size] d fun e f=>
 eT c.size (let g:=scells f c.size 0 [.s e]
 eT c.size (eT b.size (let h:=scells g b.size 0 [.s e]
 eT b.size (R (.agg #[Sl.v e]) h)))))):cV qd3 [.agg #[Sl.v a]] m R:=vcs (dl:=[]) (A1:=[]) (A2:=[]) (A3:=[]) (args:=[.agg [.s a]]) Tryz.func195 h'

theorem qj3 (a b c d:Int) (e f:Sl) (h' :
 let g:=m.push (.cells (vals [.i a,.i b,.i c,.i d,.s e,.s f]) 224)
 let h:=g.push (.cells (vals [.i 0,.i 0,.i 0,.i 0,.s Sl.nil,.s Sl.nil]) 86)
 let i:=h.push (.cells (vals [.i 0,.i 0,.i 0,.i 0,.s Sl.nil,.s Sl.nil]) 86)
 eT m.size (eT h.size (let j:=scells i h.size 0 [.i a]
 eT m.size (eT h.size (let k:=scells j h.size 1 [.i b]
 eT m.size (eT h.size (let l:=scells k h.size 2 [.i c]
 eT m.size (eT h.size (let n:=scells l h.size 3 [.i d]
 eT m.size (cS q23 [Sl.v e] [h.size,g.size,m.size] n fun o p=>
 eT h.size (let q:=scells p h.size 4 [.s o]
 eT m.size (cS q23 [Sl.v f] [h.size,g.size,m.size] q fun s t=>
 eT h.size (let u:=scells t h.size 5 [.s s]
 eT h.size (eT g.size (let v:=scells u g.size 0 [.i a,.i b,.i c,.i d,.s o,.s s]
 eT g.size (R (.agg #[vi a,vi b,vi c,vi d,Sl.v o,Sl.v s]) v)))))))))))))))):cV qaf [.agg #[vi a,vi b,vi c,vi d,Sl.v e,Sl.v f]] m R:=vcs (dl:=[]) (A1:=[]) (A2:=[]) (A3:=[]) (args:=[.agg [.i a,.i b,.i c,.i d,.s e,.s f]]) Tryz.func196 h'

end
section
set_option linter.unusedVariables false
set_option maxRecDepth 100000
variable {m:Mem} {R:Value->Mem->Prop}
theorem qfd (a:Sl) (h' :
 iP (decide ((a.len:Int) > 4)) (R (vb false) m) (∃ (b:Int->Mem->Prop) (c:Int->Mem->Nat),
 b 0 m /\
 (∀ d e,b d e ->
 iP (decide (d < a.len)) (rg d a (rI e a.blk (a.off+d.toNat*3) fun f=>
 rI e a.blk (a.off+d.toNat*3+1) fun g=>
 rS e a.blk (a.off+d.toNat*3+2) fun h=>
 let i:=e.push (.cells (vals [.i 0,.i 0,.s Sl.nil]) 122)
 eT e.size (let j:=scells i e.size 0 [.i f,.i g,.s h]
 ∃ k:Mem->Prop,
 (eT e.size (cB q4v [Sl.v a,vi f] [e.size] j fun l n=>
 iP (!l) (R (vb false) n) (eT e.size (cB q4v [Sl.v a,vi g] [e.size] n fun o p=>
 iP (!o) (R (vb false) p) (eT e.size (iP (decide ((h.len:Int) > 3)) (R (vb false) p) (eT e.size (iP (decide ((h.len:Int) > 0)) (eT e.size (iP (f != 0) (R (vb false) p) (eT e.size (iP (g != 0) (R (vb false) p) (eS e.size 122 [.i f,.i g,.s h] (k p)))))) (eS e.size 122 [.i f,.i g,.s h] (k p)))))))))) /\
 (∀ l,k l ->
 eT e.size (∃ (n:Int->Mem->Prop) (o:Int->Mem->Nat),
 n 0 l /\
 (∀ p q,n p q ->
 iP (decide (p < h.len)) (rg p h (rS q h.blk (h.off+p.toNat*1) fun s=>
 let t:=q.push (.cells (vals [.s Sl.nil]) 201)
 eT q.size (let u:=scells t q.size 0 [.s s]
 eT q.size (iP (decide ((s.len:Int) > 3)) (R (vb false) u) (eT q.size (cB q6a [Sl.v a,Sl.v s] [q.size,e.size] u fun v x=>
 iP (!v) (R (vb false) x) (eS e.size 122 [.i f,.i g,.s h] (n (w64 (p+1)) x/\o (w64 (p+1)) x < o p q)))))))) ((0:Int)<=(0:Int)/\0<=d/\d<=(a.cap:Int) /\
 ∃ (s:Int->Mem->Prop) (t:Int->Mem->Nat),
 s 0 q /\
 (∀ u v,s u v ->
 iP (decide (u < ((Sl.cut a (Int.toNat 0) (d.toNat) 3).len:Int))) (0<=u/\u < ((Sl.cut a (Int.toNat 0) (d.toNat) 3).len:Int) /\
 rI v ((Sl.cut a (Int.toNat 0) (d.toNat) 3).blk) ((Sl.cut a (Int.toNat 0) (d.toNat) 3).off+u.toNat*3) fun x=>
 rI v ((Sl.cut a (Int.toNat 0) (d.toNat) 3).blk) ((Sl.cut a (Int.toNat 0) (d.toNat) 3).off+u.toNat*3+1) fun y=>
 rS v ((Sl.cut a (Int.toNat 0) (d.toNat) 3).blk) ((Sl.cut a (Int.toNat 0) (d.toNat) 3).off+u.toNat*3+2) fun z=>
 let A:=v.push (.cells (vals [.i 0,.i 0,.s Sl.nil]) 122)
 eT v.size (let B:=scells A v.size 0 [.i x,.i y,.s z]
 eT e.size (iP ((h.len:Int) == 0) (eT v.size (iP ((z.len:Int) == 0) (eT v.size (eT e.size (iP (x == f) (eT v.size (eT e.size (iP (y == g) (R (vb false) B) (eS e.size 122 [.i f,.i g,.s h] (s (w64 (u+1)) B/\t (w64 (u+1)) B < t u v))))) (eS e.size 122 [.i f,.i g,.s h] (s (w64 (u+1)) B/\t (w64 (u+1)) B < t u v))))) (eS e.size 122 [.i f,.i g,.s h] (s (w64 (u+1)) B/\t (w64 (u+1)) B < t u v)))) (eS e.size 122 [.i f,.i g,.s h] (s (w64 (u+1)) B/\t (w64 (u+1)) B < t u v))))) (b (w64 (d+1)) v/\c (w64 (d+1)) v < c d e))))))))) (R (vb true) e)))):cV q7b [Sl.v a] m R:=vcs (dl:=[]) (A1:=[(4,[(14,.I)]),(9,[(56,.I)]),(15,[(76,.I)])]) (A2:=[(8,[])]) (A3:=[(8,[110]),(9,[110]),(15,[110])]) (args:=[.c (.s a)]) Tryz.func197 h'

theorem qi8 (a b:Sl) (h' :
 ∃ (c:Int->Mem->Prop) (d:Int->Mem->Nat),
 c 0 m /\
 (∀ e f,c e f ->
 iP (decide (e < b.len)) (0<=e/\e < b.len /\
 ∃ g:Int,gcell f b.blk (b.off+e.toNat*1)=some (vi g) /\
 cV q4v [Sl.v a,vi g] f fun h i=>
 ∃ j:Bool,h=vb j /\
 iP (!j) (R (vb false) i) (c (w64 (e+1)) i/\d (w64 (e+1)) i < d e f)) (R (vb true) f))):cV q6a [Sl.v a,Sl.v b] m R:=vcs (dl:=[]) (A1:=[(2,[(9,.I)])]) (A2:=[]) (A3:=[]) (args:=[.c (.s a),.c (.s b)]) Tryz.func198 h'

theorem qle (a:Sl) (b:Int) (h' :
 iP (decide (b ≥ 0)) (R (vb (decide (b<=a.len))) m) (R (vb false) m)):cV q4v [Sl.v a,vi b] m R:=vcs (dl:=[]) (A1:=[]) (A2:=[]) (A3:=[]) (args:=[.c (.s a),.c (.i b)]) Tryz.func199 h'

theorem q95 (a:Sl) (b:Fn × Array Value × Array Value) (h' :
 ∃ (c:Int->Mem->Prop) (d:Int->Mem->Nat),
 c 0 m /\
 (∀ e f,c e f ->
 iP (decide (e < a.len)) (0<=e/\e < a.len /\
 ∃ h:Int,gcell f a.blk (a.off+e.toNat*1)=some (vi h) /\
 ∃ g,b.1=.func g/\GL.elem g=true /\
 cV g (b.2.1.toList ++ [vi h] ++ b.2.2.toList) f fun i j=>
 ∃ k:Bool,i=vb k /\
 iP k (R (vi e) j) (c (w64 (e+1)) j/\d (w64 (e+1)) j < d e f)) (R (vi (-1)) f))):cV q49 [Sl.v a,.func b.1 b.2.1 b.2.2] m R:=vcs (dl:=[]) (A1:=[(2,[(8,.I)])]) (A2:=[]) (A3:=[]) (args:=[.c (.s a),.c (.fv b)]) Tryz.func200 h'

theorem qib (a:Sl) (b:Int) (h' :
 cV qd1 [Sl.v a,vi b] m fun c d=>
 ∃ e:Int,∃ f:Sl,c=.tuple #[vi e,.agg #[Sl.v f]] /\
 let g:=d.push (.cells (vals [.s Sl.nil]) 201)
 eT d.size (let h:=scells g d.size 0 [.s f]
 eT d.size (R (Sl.v f) h))):cV q9t [Sl.v a,vi b] m R:=vcs (dl:=[]) (A1:=[]) (A2:=[]) (A3:=[]) (args:=[.c (.s a),.c (.i b)]) Tryz.func201 h'

theorem q9x (a:Sl) (b:Int) (h' :
 cV q3z [Sl.v a,vi b] m fun c d=>
 ∃ e:Int,c=vi e /\
 R (vb (decide (e ≥ 0))) d):cV q2n [Sl.v a,vi b] m R:=vcs (dl:=[]) (A1:=[]) (A2:=[]) (A3:=[]) (args:=[.c (.s a),.c (.i b)]) Tryz.func202 h'

theorem qll (a:Sl) (b:Int) (h' :
 iP (decide (b ≥ 1000)) (iP (decide ((w64 (b - 1000)) < (a.len:Int))) (0<=(w64 (b - 1000))/\(w64 (b - 1000)) < (a.len:Int) /\
 ∃ c:Int,gcell m a.blk (a.off+Int.toNat (w64 (b - 1000))*3)=some (vi c) /\
 R (.tuple #[vi (w64 (b - 1000)),vb (decide (c > 0))]) m) (R (.tuple #[vi (w64 (b - 1000)),vb false]) m)) (R (.tuple #[vi (w64 (b - 1000)),vb false]) m)):cV q24 [Sl.v a,vi b] m R:=vcs (dl:=[2]) (A1:=[]) (A2:=[]) (A3:=[]) (args:=[.c (.s a),.c (.i b)]) Tryz.func203 h'

theorem qg0 (a:Int) (h' :
 R (vb (a != 0)) m):cV q89 [vi a] m R:=vcs (dl:=[]) (A1:=[]) (A2:=[]) (A3:=[]) (args:=[.c (.i a)]) Tryz.func204 h'

theorem qb7 (a:Nat × Nat) (b c:Int) (d:Sl) (h' :
 let e:=m.push (.cells (vals [.i b,.i c,.s d]) 149)
 eT m.size (iP (b == 1) (R (vb true) e) (let f:=e.push (.map #[] 0)
 eT m.size (∃ (g:Int->Mem->Prop) (h:Int->Mem->Nat),
 g 0 f /\
 (∀ i j,g i j ->
 iP (decide (i < d.len)) (rg i d (rI j d.blk (d.off+i.toNat*1) fun k=>
 rS j a.1 (a.2+3+5) fun n=>
 cV q24 [Sl.v n,vi k] j fun o p=>
 Sam [m.size] j p /\
 ∃ q:Int,∃ s:Bool,o=.tuple #[vi q,vb s] /\
 iP s (∃ l,mapOf p e.size l /\
 ∃ l_1,mapOf p e.size l_1 /\
 ∀ m1_4:Mem,mapOf m1_4 e.size (mput l_1 q (w64 ((mget l q)+1)))->m1_4.size=p.size->(∀ t,t ≠ e.size->m1_4[t]?=p[t]?) ->
 Sam [m.size] p m1_4 /\
 rS m1_4 a.1 (a.2+3+5) fun t=>
 rg q t (rI m1_4 t.blk (t.off+q.toNat*3) fun u=>
 ∃ l_2,mapOf m1_4 e.size l_2 /\
 gk m1_4 m1_4 t.blk (t.off+q.toNat*3) /\
 gk m1_4 m1_4 a.1 (a.2+3+5) /\
 iP (decide ((w64 (u+(mget l_2 q))) > 999999)) (R (vb false) m1_4) (eS m.size 149 [.i b,.i c,.s d] (g (w64 (i+1)) m1_4/\h (w64 (i+1)) m1_4 < h i j)))) (eS m.size 149 [.i b,.i c,.s d] (g (w64 (i+1)) p/\h (w64 (i+1)) p < h i j)))) (R (vb true) j)))))):cV q29 [vp a.1 a.2,.agg #[vi b,vi c,Sl.v d]] m R:=vcs (dl:=[10]) (A1:=[(5,[(17,.I)])]) (A2:=[]) (A3:=[(5,[54])]) (args:=[.c (.p a.1 a.2),.agg [.i b,.i c,.s d]]) Tryz.func205 h'

theorem qc7 (a b:Sl) (h' :
 iP ((a.len:Int) != (b.len:Int)) (R (vb false) m) (∃ (c:Int->Mem->Prop) (d:Int->Mem->Nat),
 c 0 m /\
 (∀ e f,c e f ->
 iP (decide (e < a.len)) (0<=e/\e < a.len /\
 ∃ g:Int,gcell f a.blk (a.off+e.toNat*1)=some (vi g) /\
 0<=e/\e < b.len /\
 ∃ h:Int,gcell f b.blk (b.off+e.toNat*1)=some (vi h) /\
 iP (g != h) (R (vb false) f) (c (w64 (e+1)) f/\d (w64 (e+1)) f < d e f)) (R (vb true) f)))):cV q52 [Sl.v a,Sl.v b] m R:=vcs (dl:=[6]) (A1:=[(4,[(13,.I)])]) (A2:=[]) (A3:=[]) (args:=[.c (.s a),.c (.s b)]) Tryz.func206 h'

theorem qf4 (a:Sl) (h' :
 ∃ (b:Sl->Int->Mem->Prop) (c:Sl->Int->Mem->Nat),
 b Sl.nil 0 m /\
 (∀ d e f,b d e f ->
 iP (decide (e < a.len)) (0<=e/\e < a.len /\
 ∃ g:Int,gcell f a.blk (a.off+e.toNat*1)=some (vi g) /\
 iP (decide (g ≥ 1000)) (let h:=f.push (.cells (vals [.i g]) 3)
 appC h 3 [.i 0] 8 d (Sl.mk f.size 0 1 1) fun i j =>
 b i (w64 (e+1)) j/\c i (w64 (e+1)) j < c d e f) (b d (w64 (e+1)) f/\c d (w64 (e+1)) f < c d e f)) (R (Sl.v d) f))):cV q7i [Sl.v a] m R:=vcs (dl:=[]) (A1:=[(3,[(3,.S),(8,.I)])]) (A2:=[]) (A3:=[]) (args:=[.c (.s a)]) Tryz.func207 h'

theorem qo1 (a b c:Int) (h' :
 iP (decide (b < (-999))) (R (vi 0) m) (iP (decide (b > 999)) (R (vi 0) m) (iP (decide (c < (-999))) (R (vi 0) m) (iP (decide (c > 999)) (R (vi 0) m) (iP (a == 1) (R (vi (if 999 < (if (-999) > (w64 (b+c)) then (-999) else (w64 (b+c))) then 999 else (if (-999) > (w64 (b+c)) then (-999) else (w64 (b+c))))) m) (iP (a == 2) (R (vi (if 999 < (if (-999) > (w64 (b - c)) then (-999) else (w64 (b - c))) then 999 else (if (-999) > (w64 (b - c)) then (-999) else (w64 (b - c))))) m) (iP (a == 3) (R (vi (if 999 < (if (-999) > (w64 (b*c)) then (-999) else (w64 (b*c))) then 999 else (if (-999) > (w64 (b*c)) then (-999) else (w64 (b*c))))) m) (iP (a == 4) (iP (decide (b < c)) (R (vi (if 999 < (if (-999:Int) > (1:Int) then (-999) else 1) then 999 else (if (-999:Int) > (1:Int) then (-999) else 1))) m) (R (vi (if 999 < (if (-999:Int) > (0:Int) then (-999) else 0) then 999 else (if (-999:Int) > (0:Int) then (-999) else 0))) m)) (R (vi (if 999 < (if (-999:Int) > (0:Int) then (-999) else 0) then 999 else (if (-999:Int) > (0:Int) then (-999) else 0))) m))))))))):cV qen [vi a,vi b,vi c] m R:=vcs (dl:=[]) (A1:=[]) (A2:=[]) (A3:=[]) (args:=[.c (.i a),.c (.i b),.c (.i c)]) Tryz.func208 h'

theorem qf9 (a:Nat × Nat) (b:Int) (c:Sl) (h' :
 dS q11 [Sl.v c] m fun d e=>
 let f:=e.push (.cells (vals [.i 0,.i 0,.s Sl.nil]) 149)
 eT e.size (let g:=scells f e.size 0 [.i 1,.i b,.s d]
 rS g a.1 a.2 fun h=>
 cI q2l [Sl.v h,.func (.func q33) #[] #[]] [e.size] g fun i j=>
 iP (decide (i < 0)) (rS j a.1 a.2 fun k=>
 rS j a.1 a.2 fun l=>
 eT e.size (let n:=j.push (.cells (vals [.i 1,.i b,.s d]) 149)
 gk n j a.1 a.2 /\
 appC n 149 [.i 0,.i 0,.s Sl.nil] 40 l (Sl.mk j.size 0 1 1) fun o p =>
 Sam [e.size] n p /\
 wrOk p a.1 a.2 1 /\
 let q:=scells p a.1 a.2 [.s o]
 Sam [e.size] p q /\
 R (vi (w64 (1000+(k.len:Int)))) q)) (rS j a.1 a.2 fun k=>
 eT e.size (rg i k (wrOk j k.blk (k.off+i.toNat*3) 3 /\
 let l:=scells j k.blk (k.off+i.toNat*3) [.i 1,.i b,.s d]
 Sam [e.size] j l /\
 R (vi (w64 (1000+i))) l))))):cV q79 [vp a.1 a.2,vi b,Sl.v c] m R:=vcs (dl:=[5,6]) (A1:=[]) (A2:=[]) (A3:=[]) (args:=[.c (.p a.1 a.2),.c (.i b),.c (.s c)]) Tryz.func209 h'

theorem qg7 (a:Nat × Nat) (h' :
 ∃ b:Sl,gcell m a.1 a.2=some (Sl.v b) /\
 ∃ (c:Int->Mem->Prop) (d:Int->Mem->Nat),
 c (b.len:Int) m /\
 (∀ e f,c e f ->
 iP (decide (e > 0)) (∃ g:Sl,gcell f a.1 a.2=some (Sl.v g) /\
 0<=(w64 (e - 1))/\(w64 (e - 1)) < (g.len:Int) /\
 ∃ h:Int,gcell f g.blk (g.off+Int.toNat (w64 (e - 1))*3)=some (vi h) /\
 iP (h == 0) (c (w64 (e - 1)) f/\d (w64 (e - 1)) f < d e f) (∃ i:Sl,gcell f a.1 a.2=some (Sl.v i) /\
 (0:Int)<=(0:Int)/\0<=e/\e<=(i.cap:Int) /\
 wrOk f a.1 a.2 1 /\
 let j:=scells f a.1 a.2 [.s (Sl.cut i (Int.toNat 0) (e.toNat) 3)]
 R (.tuple #[]) j)) (∃ g:Sl,gcell f a.1 a.2=some (Sl.v g) /\
 (0:Int)<=(0:Int)/\0<=e/\e<=(g.cap:Int) /\
 wrOk f a.1 a.2 1 /\
 let h:=scells f a.1 a.2 [.s (Sl.cut g (Int.toNat 0) (e.toNat) 3)]
 R (.tuple #[]) h))):cV q5o [vp a.1 a.2] m R:=vcs (dl:=[]) (A1:=[(1,[(2,.I)])]) (A2:=[]) (A3:=[]) (args:=[.c (.p a.1 a.2)]) Tryz.func210 h'

theorem qne (a b:Sl) (h' :
 let c:=m.push (.cells (vals [.s a]) 201)
 let d:=c.push (.cells (vals [.s b]) 201)
 eT m.size (eT c.size (cB q22 [Sl.v a,Sl.v b] [c.size,m.size] d fun e f=>
 iP (!e) (R (vb false) f) (R (vb true) f)))):cV qcu [.agg #[Sl.v a],.agg #[Sl.v b]] m R:=vcs (dl:=[]) (A1:=[]) (A2:=[]) (A3:=[]) (args:=[.agg [.s a],.agg [.s b]]) Tryz.func211 h'

theorem qj1 (a b c d:Int) (e f:Sl) (g h i j:Int) (k l:Sl) (h' :
 let n:=m.push (.cells (vals [.i a,.i b,.i c,.i d,.s e,.s f]) 86)
 let o:=n.push (.cells (vals [.i g,.i h,.i i,.i j,.s k,.s l]) 86)
 eT m.size (eT n.size (iP (a != g) (R (vb false) o) (eT m.size (eT n.size (iP (b != h) (R (vb false) o) (eT m.size (eT n.size (iP (c != i) (R (vb false) o) (eT m.size (eT n.size (iP (d != j) (R (vb false) o) (eT m.size (eT n.size (cB q22 [Sl.v e,Sl.v k] [n.size,m.size] o fun p q=>
 iP (!p) (R (vb false) q) (eT m.size (eT n.size (cB q22 [Sl.v f,Sl.v l] [n.size,m.size] q fun s t=>
 iP (!s) (R (vb false) t) (R (vb true) t))))))))))))))))))):cV qak [.agg #[vi a,vi b,vi c,vi d,Sl.v e,Sl.v f],.agg #[vi g,vi h,vi i,vi j,Sl.v k,Sl.v l]] m R:=vcs (dl:=[]) (A1:=[]) (A2:=[]) (A3:=[]) (args:=[.agg [.i a,.i b,.i c,.i d,.s e,.s f],.agg [.i g,.i h,.i i,.i j,.s k,.s l]]) Tryz.func212 h'

theorem qlj (a:Sl) (b:Int) (h' :
 cV q0d [vi b,vi (-999),vi 999] m fun c d=>
 ∃ e:Bool,c=vb e /\
 iP e (R (vb true) d) (cV q1w [Sl.v a,vi b] d fun f g=>
 ∃ h:Bool,f=vb h /\
 R (vb h) g)):cV qbm [Sl.v a,vi b] m R:=vcs (dl:=[]) (A1:=[]) (A2:=[]) (A3:=[]) (args:=[.c (.s a),.c (.i b)]) Tryz.func213 h'

theorem qh3 (a b:Sl) (h' :
 ∃ (c:Int->Mem->Prop) (d:Int->Mem->Nat),
 c 0 m /\
 (∀ e f,c e f ->
 iP (decide (e < b.len)) (0<=e/\e < b.len /\
 ∃ g:Int,gcell f b.blk (b.off+e.toNat*1)=some (vi g) /\
 cV q13 [vi g] f fun h i=>
 ∃ j:Bool,h=vb j /\
 iP j (0<=e/\e < b.len /\
 ∃ k:Int,gcell i b.blk (b.off+e.toNat*1)=some (vi k) /\
 0<=(w64 (k - 1000))/\(w64 (k - 1000)) < (a.len:Int) /\
 ∃ l:Bool,gcell i a.blk (a.off+Int.toNat (w64 (k - 1000))*1)=some (vb l) /\
 iP (!l) (R (vb false) i) (c (w64 (e+1)) i/\d (w64 (e+1)) i < d e f)) (c (w64 (e+1)) i/\d (w64 (e+1)) i < d e f)) (R (vb true) f))):cV q8u [Sl.v a,Sl.v b] m R:=vcs (dl:=[]) (A1:=[(2,[(5,.I)])]) (A2:=[]) (A3:=[]) (args:=[.c (.s a),.c (.s b)]) Tryz.func214 h'

theorem qiu (a:Int) (h' :
 cV q0d [vi a,vi 0,vi 11] m fun b c=>
 ∃ d:Bool,b=vb d /\
 R (vb d) c):cV qax [vi a] m R:=vcs (dl:=[]) (A1:=[]) (A2:=[]) (A3:=[]) (args:=[.c (.i a)]) Tryz.func215 h'

theorem qa2 (a:Nat × Nat) (b:Sl) (h' :
 ∃ (c:Int->Mem->Prop) (d:Int->Mem->Nat),
 c 0 m /\
 (∀ e f,c e f ->
 iP (decide (e < b.len)) (∃ (g:Int->Int->Mem->Prop) (h:Int->Int->Mem->Nat),
 g 0 0 f /\
 (∀ i j k,g i j k ->
 iP (decide (j < b.len)) (0<=j/\j < b.len /\
 ∃ l:Int,gcell k b.blk (b.off+j.toNat*1)=some (vi l) /\
 0<=e/\e < b.len /\
 ∃ n:Int,gcell k b.blk (b.off+e.toNat*1)=some (vi n) /\
 iP (l == n) (g (w64 (i+1)) (w64 (j+1)) k/\h (w64 (i+1)) (w64 (j+1)) k < h i j k) (g i (w64 (j+1)) k/\h i (w64 (j+1)) k < h i j k)) (0<=e/\e < b.len /\
 ∃ l:Int,gcell k b.blk (b.off+e.toNat*1)=some (vi l) /\
 cV q0z [vp a.1 a.2,vi l] k fun n o=>
 ∃ p:Int,∃ q:Int,∃ s:Sl,n=.agg #[vi p,vi q,Sl.v s] /\
 iP (decide ((w64 (p+i)) > 999999)) (R (vb false) o) (c (w64 (e+1)) o/\d (w64 (e+1)) o < d e f)))) (R (vb true) f))):cV q3e [vp a.1 a.2,Sl.v b] m R:=vcs (dl:=[8]) (A1:=[(2,[(5,.I)]),(6,[(6,.I),(7,.I)])]) (A2:=[]) (A3:=[]) (args:=[.c (.p a.1 a.2),.c (.s b)]) Tryz.func216 h'

theorem qey (a:Sl) (h' :
 let b:=m.push (.cells (vals []) 3)
 ∃ (c:Sl->Int->Mem->Prop) (d:Sl->Int->Mem->Nat),
 c (Sl.mk m.size 0 0 0) 0 b /\
 (∀ e f g,c e f g ->
 iP (decide (f < a.len)) (0<=f/\f < a.len /\
 ∃ h:Int,gcell g a.blk (a.off+f.toNat*1)=some (vi h) /\
 cV q13 [vi h] g fun i j=>
 ∃ k:Bool,i=vb k /\
 iP k (0<=f/\f < a.len /\
 ∃ l:Int,gcell j a.blk (a.off+f.toNat*1)=some (vi l) /\
 let n:=j.push (.cells (vals [.i l]) 3)
 appC n 3 [.i 0] 8 e (Sl.mk j.size 0 1 1) fun o p =>
 c o (w64 (f+1)) p/\d o (w64 (f+1)) p < d e f g) (c e (w64 (f+1)) j/\d e (w64 (f+1)) j < d e f g)) (R (Sl.v e) g))):cV q4a [Sl.v a] m R:=vcs (dl:=[]) (A1:=[(3,[(3,.S),(4,.I)])]) (A2:=[]) (A3:=[]) (args:=[.c (.s a)]) Tryz.func217 h'

theorem qi2 (a b:Sl) (h' :
 iP ((a.len:Int) != (b.len:Int)) (R (vb false) m) (∃ (c:Int->Mem->Prop) (d:Int->Mem->Nat),
 c 0 m /\
 (∀ e f,c e f ->
 iP (decide (e < a.len)) (0<=e/\e < a.len /\
 ∃ g:Int,gcell f a.blk (a.off+e.toNat*1)=some (vi g) /\
 0<=e/\e < b.len /\
 ∃ h:Int,gcell f b.blk (b.off+e.toNat*1)=some (vi h) /\
 iP (g != h) (R (vb false) f) (c (w64 (e+1)) f/\d (w64 (e+1)) f < d e f)) (R (vb true) f)))):cV q9k [Sl.v a,Sl.v b] m R:=vcs (dl:=[6]) (A1:=[(4,[(5,.I)])]) (A2:=[]) (A3:=[]) (args:=[.c (.s a),.c (.s b)]) Tryz.func218 h'

theorem qji (a b c:Int) (d e f g:Sl) (h' :
 let h:=m.push (.cells (vals [.i a,.i b,.i c,.s d,.s e,.s f]) 84)
 let i:=h.push (.cells (vals []) 3)
 ∃ (j:Sl->Int->Mem->Prop) (k:Sl->Int->Mem->Nat),
 j (Sl.mk h.size 0 0 0) 0 i /\
 (∀ l n o,j l n o ->
 iP (decide (n < g.len)) (eT m.size (rg n g (rI o g.blk (g.off+n.toNat*1) fun p=>
 rg p d (rI o d.blk (d.off+p.toNat*1) fun q=>
 let s:=o.push (.cells (vals [.i q]) 3)
 appC s 3 [.i 0] 8 l (Sl.mk o.size 0 1 1) fun t u =>
 Sam [m.size] s u /\
 eS m.size 84 [.i a,.i b,.i c,.s d,.s e,.s f] (j t (w64 (n+1)) u/\k t (w64 (n+1)) u < k l n o))))) (R (Sl.v l) o))):cV q5b [.agg #[vi a,vi b,vi c,Sl.v d,Sl.v e,Sl.v f],Sl.v g] m R:=vcs (dl:=[5]) (A1:=[(3,[(5,.S),(6,.I)])]) (A2:=[]) (A3:=[(3,[28])]) (args:=[.agg [.i a,.i b,.i c,.s d,.s e,.s f],.c (.s g)]) Tryz.func219 h'

theorem qmh (a:Int) (h' :
 R (vi (if (if a < 999 then a else 999) > (-999) then (if a < 999 then a else 999) else (-999))) m):cV q6i [vi a] m R:=vcs (dl:=[]) (A1:=[]) (A2:=[]) (A3:=[]) (args:=[.c (.i a)]) Tryz.func220 h'

theorem qgg (a:Sl) (h' :
 ∃ (b:Int->Mem->Prop) (c:Int->Mem->Nat),
 b 0 m /\
 (∀ d e,b d e ->
 iP (decide (d < a.len)) (0<=d/\d < a.len /\
 ∃ f:Int,gcell e a.blk (a.off+d.toNat*3)=some (vi f) /\
 iP (f == 0) (R (vi d) e) (b (w64 (d+1)) e/\c (w64 (d+1)) e < c d e)) (R (vi (a.len:Int)) e))):cV q85 [Sl.v a] m R:=vcs (dl:=[]) (A1:=[(2,[(3,.I)])]) (A2:=[]) (A3:=[]) (args:=[.c (.s a)]) Tryz.func221 h'

end
section
set_option linter.unusedVariables false
set_option maxRecDepth 100000
variable {m:Mem} {R:Value->Mem->Prop}
theorem qnb (a:Sl) (b c:Int) (d:Sl) (h' :
 dS q15 [Sl.v d] m fun e f=>
 let g:=f.push (.cells (vals [.i 0,.i 0,.s Sl.nil]) 149)
 eT f.size (let h:=scells g f.size 0 [.i 1,.i c,.s e]
 iP (b == (a.len:Int)) (eT f.size (let i:=h.push (.cells (vals [.i 1,.i c,.s e]) 149)
 appC i 149 [.i 0,.i 0,.s Sl.nil] 40 a (Sl.mk h.size 0 1 1) fun j k =>
 Sam [f.size] i k /\
 R (Sl.v j) k)) (eT f.size (rg b a (wrOk h a.blk (a.off+b.toNat*3) 3 /\
 let i:=scells h a.blk (a.off+b.toNat*3) [.i 1,.i c,.s e]
 Sam [f.size] h i /\
 R (Sl.v a) i))))):cV qd7 [Sl.v a,vi b,vi c,Sl.v d] m R:=vcs (dl:=[]) (A1:=[]) (A2:=[]) (A3:=[]) (args:=[.c (.s a),.c (.i b),.c (.i c),.c (.s d)]) Tryz.func222 h'

theorem qkk (a b:Sl) (h' :
 cV q15 [Sl.v a] m fun c d=>
 ∃ e:Sl,c=Sl.v e /\
 appC d 3 [.i 0] 8 e b fun f g =>
 R (Sl.v f) g):cV qbr [Sl.v a,Sl.v b] m R:=vcs (dl:=[]) (A1:=[]) (A2:=[]) (A3:=[]) (args:=[.c (.s a),.c (.s b)]) Tryz.func223 h'

theorem qcj (a:Nat × Nat) (b:Int) (h' :
 ∃ c:Sl,gcell m a.1 (a.2+2+5)=some (Sl.v c) /\
 0<=(w64 (b - 1000))/\(w64 (b - 1000)) < (c.len:Int) /\
 ∃ d:Int,gcell m c.blk (c.off+Int.toNat (w64 (b - 1000))*3)=some (vi d) /\
 iP (d == 1) (R (vb true) m) (∃ e:Sl,gcell m a.1 (a.2+2+5)=some (Sl.v e) /\
 ∃ f:Sl,gcell m a.1 (a.2+2+5)=some (Sl.v f) /\
 0<=(w64 (b - 1000))/\(w64 (b - 1000)) < (f.len:Int) /\
 ∃ g:Int,gcell m f.blk (f.off+Int.toNat (w64 (b - 1000))*3)=some (vi g) /\
 0<=(w64 (b - 1000))/\(w64 (b - 1000)) < (e.len:Int) /\
 wrOk m e.blk (e.off+Int.toNat (w64 (b - 1000))*3) 1 /\
 let h:=scells m e.blk (e.off+Int.toNat (w64 (b - 1000))*3) [.i (w64 (g - 1))]
 ∃ i:Sl,gcell h a.1 (a.2+2+5)=some (Sl.v i) /\
 0<=(w64 (b - 1000))/\(w64 (b - 1000)) < (i.len:Int) /\
 ∃ j:Sl,gcell h i.blk (i.off+Int.toNat (w64 (b - 1000))*3+2)=some (Sl.v j) /\
 cV q4a [Sl.v j] h fun k l=>
 ∃ n:Sl,k=Sl.v n /\
 cV q4g [vp a.1 a.2,Sl.v n] l fun o p=>
 R (vb false) p)):cV q46 [vp a.1 a.2,vi b] m R:=vcs (dl:=[4]) (A1:=[]) (A2:=[]) (A3:=[]) (args:=[.c (.p a.1 a.2),.c (.i b)]) Tryz.func224 h'

theorem qow (a:Sl) (h' :
 ∃ (b:Int->Mem->Prop) (c:Int->Mem->Nat),
 b (a.len:Int) m /\
 (∀ d e,b d e ->
 iP (decide (d > 0)) (0<=(w64 (d - 1))/\(w64 (d - 1)) < (a.len:Int) /\
 ∃ f:Int,gcell e a.blk (a.off+Int.toNat (w64 (d - 1))*3)=some (vi f) /\
 iP (f == 0) (b (w64 (d - 1)) e/\c (w64 (d - 1)) e < c d e) ((0:Int)<=(0:Int)/\0<=d/\d<=(a.cap:Int) /\
 R (Sl.v (Sl.cut a (Int.toNat 0) (d.toNat) 3)) e)) ((0:Int)<=(0:Int)/\0<=d/\d<=(a.cap:Int) /\
 R (Sl.v (Sl.cut a (Int.toNat 0) (d.toNat) 3)) e))):cV q7p [Sl.v a] m R:=vcs (dl:=[]) (A1:=[(2,[(3,.I)])]) (A2:=[]) (A3:=[]) (args:=[.c (.s a)]) Tryz.func225 h'

theorem q9w (a:Nat × Nat) (b c d e:Int) (f g h:Sl) (h' :
 let i:=m.push (.cells (vals [.i b,.i c,.i d,.i e,.s f,.s g]) 86)
 let j:=i.push (.cells (vals []) 3)
 ∃ (k:Sl->Int->Mem->Prop) (l:Sl->Int->Mem->Nat),
 k (Sl.mk i.size 0 0 0) 0 j /\
 (∀ n o p,k n o p ->
 iP (decide (o < h.len)) (rg o h (rI p h.blk (h.off+o.toNat*1) fun q=>
 cB q13 [vi q] [m.size] p fun s t=>
 iP s (rS t a.1 a.2 fun u=>
 rS t a.1 (a.2+1) fun v=>
 eT m.size (cB q5f [.agg #[Sl.v u,Sl.v v],.agg #[vi b,vi c,vi d,vi e,Sl.v f,Sl.v g],vi o] [m.size] t fun x y=>
 iP (!x) (let z:=y.push (.cells (vals [.i 1]) 3)
 appC z 3 [.i 0] 8 n (Sl.mk y.size 0 1 1) fun A B =>
 Sam [m.size] z B /\
 eS m.size 86 [.i b,.i c,.i d,.i e,.s f,.s g] (k A (w64 (o+1)) B/\l A (w64 (o+1)) B < l n o p)) (let z:=y.push (.cells (vals [.i 0]) 3)
 appC z 3 [.i 0] 8 n (Sl.mk y.size 0 1 1) fun A B =>
 Sam [m.size] z B /\
 eS m.size 86 [.i b,.i c,.i d,.i e,.s f,.s g] (k A (w64 (o+1)) B/\l A (w64 (o+1)) B < l n o p)))) (let u:=t.push (.cells (vals [.i 0]) 3)
 appC u 3 [.i 0] 8 n (Sl.mk t.size 0 1 1) fun v x =>
 Sam [m.size] u x /\
 eS m.size 86 [.i b,.i c,.i d,.i e,.s f,.s g] (k v (w64 (o+1)) x/\l v (w64 (o+1)) x < l n o p)))) (R (Sl.v n) p))):cV q2o [vp a.1 a.2,.agg #[vi b,vi c,vi d,vi e,Sl.v f,Sl.v g],Sl.v h] m R:=vcs (dl:=[5]) (A1:=[(3,[(7,.S),(8,.I)])]) (A2:=[]) (A3:=[(3,[42])]) (args:=[.c (.p a.1 a.2),.agg [.i b,.i c,.i d,.i e,.s f,.s g],.c (.s h)]) Tryz.func226 h'

theorem qgh (a:Sl) (b c:Int) (d:Sl) (h' :
 let e:=m.push (.cells (vals [.i b,.i c,.s d]) 149)
 eT m.size (iP (decide (b < (-1))) (R (vb false) e) (eT m.size (iP (decide (c < 0)) (R (vb false) e) (eT m.size (iP (decide (c > 99)) (R (vb false) e) (eT m.size (iP (decide ((d.len:Int) > 3)) (R (vb false) e) (∃ f:Mem->Prop,
 (eT m.size (iP (decide (b < 1)) (eT m.size (iP (c != 0) (R (vb false) e) (eT m.size (iP (b == 0) (eT m.size (iP (decide ((d.len:Int) > 0)) (R (vb false) e) (eS m.size 149 [.i b,.i c,.s d] (f e)))) (eS m.size 149 [.i b,.i c,.s d] (f e)))))) (eT m.size (iP (b == 0) (eT m.size (iP (decide ((d.len:Int) > 0)) (R (vb false) e) (eS m.size 149 [.i b,.i c,.s d] (f e)))) (eS m.size 149 [.i b,.i c,.s d] (f e)))))) /\
 (∀ g,f g ->
 eT m.size (∃ (h:Int->Mem->Prop) (i:Int->Mem->Nat),
 h 0 g /\
 (∀ j k,h j k ->
 iP (decide (j < d.len)) (rg j d (rI k d.blk (d.off+j.toNat*1) fun l=>
 cB q8a [Sl.v a,vi l] [m.size] k fun n o=>
 iP (!n) (R (vb false) o) (eT m.size (iP (decide (b < 0)) (iP (l != 0) (R (vb false) o) (eS m.size 149 [.i b,.i c,.s d] (h (w64 (j+1)) o/\i (w64 (j+1)) o < i j k))) (eS m.size 149 [.i b,.i c,.s d] (h (w64 (j+1)) o/\i (w64 (j+1)) o < i j k)))))) (R (vb true) k))))))))))))):cV q88 [Sl.v a,.agg #[vi b,vi c,Sl.v d]] m R:=vcs (dl:=[]) (A1:=[(6,[(48,.I)])]) (A2:=[(5,[])]) (A3:=[(5,[69]),(6,[69])]) (args:=[.c (.s a),.agg [.i b,.i c,.s d]]) Tryz.func227 h'

theorem qnh (a:Sl) (b:Int) (h' :
 let c:=m.push (.cells (vals [.s Sl.nil]) 201)
 ∃ (d:Int->Int->Mem->Prop) (e:Int->Int->Mem->Nat),
 d b 0 c /\
 (∀ f g h,d f g h ->
 iP (decide (g < a.len)) (rg g a (rI h a.blk (a.off+g.toNat*3) fun i=>
 rI h a.blk (a.off+g.toNat*3+1) fun j=>
 rS h a.blk (a.off+g.toNat*3+2) fun k=>
 let l:=h.push (.cells (vals [.i 0,.i 0,.s Sl.nil]) 122)
 eT h.size (let n:=scells l h.size 0 [.i i,.i j,.s k]
 iP (decide (f ≥ 0)) (eT h.size (iP (decide (f < k.len)) (eT h.size (rg f k (rS n k.blk (k.off+f.toNat*1) fun o=>
 eT m.size (let p:=scells n m.size 0 [.s o]
 eT m.size (R (.tuple #[vi (w64 (g+1)),.agg #[Sl.v o]]) p))))) (eT h.size (eS m.size 201 [.s Sl.nil] (d (w64 (f - (k.len:Int))) (w64 (g+1)) n/\e (w64 (f - (k.len:Int))) (w64 (g+1)) n < e f g h))))) (eT h.size (eS m.size 201 [.s Sl.nil] (d (w64 (f - (k.len:Int))) (w64 (g+1)) n/\e (w64 (f - (k.len:Int))) (w64 (g+1)) n < e f g h)))))) (eT m.size (let i:=scells h m.size 0 [.s Sl.nil]
 eT m.size (R (.tuple #[vi (-1),.agg #[Sl.v Sl.nil]]) i))))):cV qd1 [Sl.v a,vi b] m R:=vcs (dl:=[5]) (A1:=[(2,[(1,.I),(10,.I)])]) (A2:=[]) (A3:=[(2,[43])]) (args:=[.c (.s a),.c (.i b)]) Tryz.func228 h'

theorem q5d (a:Sl) (b:Fn × Array Value × Array Value) (h' :
 ∃ (c:Int->Mem->Prop) (d:Int->Mem->Nat),
 c 0 m /\
 (∀ e f,c e f ->
 iP (decide (e < a.len)) (0<=e/\e < a.len /\
 ∃ h:Int,gcell f a.blk (a.off+e.toNat*3)=some (vi h) /\
 ∃ i:Int,gcell f a.blk (a.off+e.toNat*3+1)=some (vi i) /\
 ∃ j:Sl,gcell f a.blk (a.off+e.toNat*3+2)=some (Sl.v j) /\
 ∃ g,b.1=.func g/\GL.elem g=true /\
 cV g (b.2.1.toList ++ [.agg #[vi h,vi i,Sl.v j]] ++ b.2.2.toList) f fun k l=>
 ∃ n:Bool,k=vb n /\
 iP n (R (vi e) l) (c (w64 (e+1)) l/\d (w64 (e+1)) l < d e f)) (R (vi (-1)) f))):cV q2l [Sl.v a,.func b.1 b.2.1 b.2.2] m R:=vcs (dl:=[]) (A1:=[(2,[(8,.I)])]) (A2:=[]) (A3:=[]) (args:=[.c (.s a),.c (.fv b)]) Tryz.func229 h'

theorem qdw (a b:Int) (c:Sl) (h' :
 let d:=m.push (.cells (vals [.i a,.i b,.s c]) 149)
 eT m.size (R (vb (a == 0)) d)):cV q33 [.agg #[vi a,vi b,Sl.v c]] m R:=vcs (dl:=[]) (A1:=[]) (A2:=[]) (A3:=[]) (args:=[.agg [.i a,.i b,.s c]]) Tryz.func230 h'

theorem qg4 (a:Sl) (b:Int) (h' :
 cV q24 [Sl.v a,vi b] m fun c d=>
 ∃ e:Int,∃ f:Bool,c=.tuple #[vi e,vb f] /\
 iP f (R (vb true) d) (cV q5e [vi b] d fun g h=>
 ∃ i:Bool,g=vb i /\
 R (vb i) h)):cV q8a [Sl.v a,vi b] m R:=vcs (dl:=[]) (A1:=[]) (A2:=[]) (A3:=[]) (args:=[.c (.s a),.c (.i b)]) Tryz.func231 h'

end
end Go.Proofs.YtpggcodlaajceaaGreat
section
/- All conditions. -/
end
namespace Go.Proofs.YtpggcodlaajceaaGreat
open Go.Vc
section
theorem q0e (n lo hi:Int) (m:Mem):q0o Tryz.prog q0d [vi n,vi lo,vi hi] m (lo<=n/\n<=hi):=by
 apply qip
 refine ⟨fun h=>retB ?_ (Ext.refl _),fun h=>retF ?_ (Ext.refl _)⟩ <;> simp at h
 ·simp [h]
 ·omega
theorem qo2 (op:Int) (m:Mem):q0o Tryz.prog qax [vi op] m (0<=op/\op<=11):=by
 apply qiu
 exact (q0e _ _ _ _).then fun b m1 hb h1=>⟨_,rfl,retB hb h1⟩
def Sets (op:Int):Prop:=0<=op/\op<=11/\op ≠ 7/\op ≠ 8 \/ op=18 \/ op=19
theorem qih (op:Int) (m:Mem):q0o Tryz.prog qb2 [vi op] m (Sets op):=by
 apply qom
 refine (qo2 _ _).then fun b m1 hb h1=>⟨_,rfl,fun h=>?_,fun h=>?_⟩
 ·have h:=hb.1 h
  refine ⟨fun h2=>⟨fun h3=>retT ?_ h1,fun h3=>⟨fun h4=>retT ?_ h1,fun h4=>retB ?_ h1⟩⟩,fun h2=>⟨fun h3=>retT ?_ h1,fun h3=>retB ?_ h1⟩⟩ <;> simp [Sets] at*<;> omega
 ·have h:=fb hb h
  refine ⟨fun h2=>retT ?_ h1,fun h2=>retB ?_ h1⟩ <;> simp [Sets] at*<;> omega
theorem qj2 {m:Mem} {list:Sl} {l:List Int} (hl:q03 m list l) (n:Int):q0o Tryz.prog q61 [Sl.v list,vi n] m (n ∈ l):=by
 apply qo3
 have hll:=hl.len
 refine forI (n:=l.length) (hll ▸ hl.lim) (fun k m'=>Ext m m'/\∀ y ∈ l.take k,y ≠ n) ⟨Ext.refl _,by simp⟩ ?_
 rintro k m1 I μ hk ⟨hx,hn⟩ next
 refine ⟨fun h=>?_,fun h=>?_⟩
 ·simp only [decide_eq_true_eq] at h
  obtain ⟨x,hx1⟩:=q00 (l:=l) (k:=k) (by omega)
  refine ⟨by omega,by omega,x,by simpa using hx.gcell (hl.at' hx1),fun h2=>?_,fun h2=>?_⟩
  ·simp only [beq_iff_eq] at h2
   exact retT (h2 ▸ q05 hx1) hx
  ·simp only [beq_eq_false_iff_ne] at h2
   exact next (by omega) _ ⟨hx,q0f hx1 hn h2⟩
 ·simp only [decide_eq_false_iff_not] at h
  exact retF (fun hm=>q0w (by omega) hn n hm rfl) hx
def IsTy (n:Nat) (t:Int):Prop:=0<=t/\t<=n
def AllTy (n:Nat) (l:List Int):Prop:=∀ t ∈ l,IsTy n t
theorem qdc {m:Mem} {list:Sl} {l:List Int} (hl:q03 m list l) (decls:Sl):q0o Tryz.prog q6e [Sl.v decls,Sl.v list] m (AllTy decls.len l):=by
 apply qhz
 have hll:=hl.len
 refine forI (n:=l.length) (hll ▸ hl.lim) (fun k m'=>Ext m m'/\∀ t ∈ l.take k,IsTy decls.len t) ⟨Ext.refl _,by simp⟩ ?_
 rintro k m1 I μ hk ⟨hx,hn⟩ next
 refine ⟨fun h=>?_,fun h=>?_⟩
 ·simp only [decide_eq_true_eq] at h
  obtain ⟨x,hx1⟩:=q00 (l:=l) (k:=k) (by omega)
  refine ⟨by omega,by omega,x,by simpa using hx.gcell (hl.at' hx1),?_⟩
  refine (q0e _ _ _ _).then fun b m2 hb h2=>⟨_,rfl,fun h=>?_,fun h=>?_⟩
  ·exact retF (fun hp=>nb hb h (hp x (q05 hx1))) (hx.trans h2)
  ·exact next (by omega) _ ⟨hx.trans h2,q0f hx1 hn (yb hb h)⟩
 ·simp only [decide_eq_false_iff_not] at h
  exact retT (q0w (by omega) hn) hx
def JumpsOk (l:List Int) (many at0 end0:Int):Prop:=(l.length:Int)=many/\∀ t ∈ l,at0+1<=t/\t<=end0 - 1
theorem qij {m:Mem} {list:Sl} {l:List Int} (hl:q03 m list l) (many at0 end0:Int) (h1:-1<=at0/\at0 < 9223372036854775807) (h2:0<=end0/\end0<=9223372036854775807) :
  q0o Tryz.prog q77 [Sl.v list,vi many,vi at0,vi end0] m (JumpsOk l many at0 end0):=by
 apply qf2
 have hll:=hl.len
 refine ⟨fun h=>?_,fun h=>?_⟩
 ·simp only [bne_iff_ne] at h
  exact retF (fun hp=>h (by rw [hll]; exact hp.1)) (Ext.refl _)
 ·simp only [bne_eq_false_iff_eq] at h
  have hmany:many=(l.length:Int):=by rw [← h,hll]
  subst hmany
  have e1:w64 (at0+1)=at0+1:=q07 (by omega) (by omega)
  have e2:w64 (end0 - 1)=end0 - 1:=q07 (by omega) (by omega)
  rw [e1,e2]
  refine forI (n:=l.length) (hll ▸ hl.lim) (fun k m'=>Ext m m'/\∀ t ∈ l.take k,at0+1<=t/\t<=end0 - 1) ⟨Ext.refl _,by simp⟩ ?_
  rintro k m1 I μ hk ⟨hx,hn⟩ next
  refine ⟨fun h=>?_,fun h=>?_⟩
  ·simp only [decide_eq_true_eq] at h
   obtain ⟨x,hx1⟩:=q00 (l:=l) (k:=k) (by omega)
   refine ⟨by omega,by omega,x,by simpa using hx.gcell (hl.at' hx1),?_⟩
   refine (q0e _ _ _ _).then fun b m2 hb h2=>⟨_,rfl,fun h=>?_,fun h=>?_⟩
   ·exact retF (fun hp=>nb hb h (hp.2 x (q05 hx1))) (hx.trans h2)
   ·exact next (by omega) _ ⟨hx.trans h2,q0f hx1 hn (yb hb h)⟩
  ·simp only [decide_eq_false_iff_not] at h
   exact retT ⟨rfl,q0w (by omega) hn⟩ hx
def LentOk (params lent:List Int):Prop:=∀ (k:Nat) (v:Int),lent[k]?=some v->(∃ t,0<=v/\params[v.toNat]?=some t/\t ≠ 0)/\(∀ u:Int,0 < k->lent[k - 1]?=some u->u < v)
theorem ql7 {m:Mem} {params lent:Sl} {p l:List Int} (hp:q03 m params p) (hl:q03 m lent l):q0o Tryz.prog q8e [Sl.v params,Sl.v lent] m (LentOk p l):=by
 apply qgv
 have hll:=hl.len
 have hpl:=hp.len
 have hplim:=hp.lim
 have e1:w64 ((params.len:Int) - 1)=(p.length:Int) - 1:=by rw [q07 (by omega) (by omega),hpl]
 rw [e1]
 have hlim:=hl.lim
 refine forI (n:=l.length) (hll ▸ hl.lim) (fun k m'=>Ext m m'/\∀ (j:Nat) (v:Int),j < k->l[j]?=some v->(∃ t,0<=v/\p[v.toNat]?=some t/\t ≠ 0)/\(∀ u:Int,0 < j->l[j - 1]?=some u->u < v)) ⟨Ext.refl _,by simp⟩ ?_
 rintro k m1 I μ hk ⟨hx,hn⟩ next
 refine ⟨fun h=>?_,fun h=>?_⟩
 ·simp only [decide_eq_true_eq] at h
  obtain ⟨x,hx1⟩:=q00 (l:=l) (k:=k) (by omega)
  have g1:gcell m1 lent.blk (lent.off+Int.toNat k*1)=some (vi x):=by simpa using hx.gcell (hl.at' hx1)
  refine ⟨by omega,by omega,x,g1,?_⟩
  refine (q0e _ _ _ _).then fun b m2 hb h2=>⟨_,rfl,fun h=>?_,fun h=>?_⟩
  ·refine retF (fun hp=>nb hb h ?_) (hx.trans h2)
   obtain ⟨⟨t,h3,h4,_⟩,_⟩:=hp k x hx1
   have:=q04 h4
   omega
  ·have hr:=yb hb h
   obtain ⟨t,ht⟩:=q00 (l:=p) (k:=x.toNat) (by omega)
   have g3:=(hx.trans h2).gcell (hp.at' ht)
   have hx2:=hx.trans h2
   refine ⟨by omega,by omega,x,h2.gcell g1,by omega,by omega,t,by simpa using g3,fun h3=>?_,fun h3=>?_⟩
   ·simp only [beq_iff_eq] at h3
    refine retF (fun hq=>?_) hx2
    obtain ⟨⟨t',_,h5,h6⟩,_⟩:=hq k x hx1
    rw [ht] at h5; simp at h5; exact h6 (h5 ▸ h3)
   ·simp only [beq_eq_false_iff_ne] at h3
    refine ⟨fun h4=>?_,fun h4=>?_⟩
    ·simp only [decide_eq_true_eq] at h4
     have e2:w64 ((k:Int) - 1)=((k - 1:Nat):Int):=by rw [q07 (by omega) (by omega)]; omega
     obtain ⟨y,hy⟩:=q00 (l:=l) (k:=k - 1) (by omega)
     rw [e2]
     refine ⟨by omega,by omega,x,h2.gcell g1,by omega,by omega,y,by simpa using hx2.gcell (hl.at' hy),fun h5=>?_,fun h5=>?_⟩
     ·simp only [decide_eq_true_eq] at h5
      refine retF (fun hq=>?_) hx2
      have:=(hq k x hx1).2 y (by omega) hy
      omega
     ·simp only [decide_eq_false_iff_not] at h5
      refine next (by omega) _ ⟨hx2,fun j v hj hv=>?_⟩
      by_cases e:j=k
      ·subst e
       rw [hx1] at hv; simp at hv; subst hv
       refine ⟨⟨t,hr.1,ht,h3⟩,fun u _ hu=>?_⟩
       rw [hy] at hu; simp at hu; subst hu; omega
      ·exact hn j v (by omega) hv
    ·simp only [decide_eq_false_iff_not] at h4
     refine next (by omega) _ ⟨hx2,fun j v hj hv=>?_⟩
     by_cases e:j=k
     ·subst e
      rw [hx1] at hv; simp at hv; subst hv
      exact ⟨⟨t,hr.1,ht,h3⟩,fun u h0 _=>by omega⟩
     ·exact hn j v (by omega) hv
 ·simp only [decide_eq_false_iff_not] at h
  exact retT (fun j v hv=>hn j v (by have:=q04 hv; omega) hv) hx
end
section
structure DeclOk (ds:List Decl) (k:Nat) (d:Decl):Prop where
 some':0 < d.cons.length->d.cons.length<=3/\d.frm=0/\d.to=0/\∀ f ∈ d.cons,f.length<=3/\AllTy ds.length f
 none':d.cons.length=0->(∀ e ∈ ds.take k,¬ (e.cons.length=0/\e.frm=d.frm/\e.to=d.to))/\IsTy ds.length d.frm/\IsTy ds.length d.to
structure TypesOk (ds:List Decl):Prop where
 len:ds.length<=4
 each:∀ (k:Nat) (d:Decl),ds[k]?=some d->DeclOk ds k d
theorem qks {m:Mem} {decls:Sl} {ds:List Decl} (hd:q0q m decls ds) {k:Nat} {d:Decl} (hk:ds[k]?=some d):q0o Tryz.prog q81 [Sl.v decls,vi k] m (DeclOk ds k d):=by
 apply qg5
 simp -zeta only [q0a,q09,rI,rS,rB,cI,cB,cS,dI,dB,dS,gk,rg]
 have hkl:=q04 hk
 have hdl:=hd.len
 obtain ⟨f,hf,g0,g1,g2⟩:=hd.at' hk
 refine ⟨by omega,by omega,_,by simpa using g0,_,by simpa using g1,_,by simpa using g2,?_⟩
 intro m1 m2
 have hx0:Ext m m2:=((Ext.refl m).pushed _).scells (Nat.le_refl _) _ _
 have hl:∀ b ∈ [m.size],b < m2.size:=by simp [m2,m1,q02]
 have hfl:=hf.len
 refine ⟨fun h=>?_,fun h=>?_⟩
 ·simp only [decide_eq_true_eq] at h
  refine ⟨fun h1=>?_,fun h1=>?_⟩
  ·simp only [decide_eq_true_eq] at h1
   exact retF (fun hp=>by have:=(hp.some' (by omega)).1; omega) hx0
  simp only [decide_eq_false_iff_not] at h1
  refine ⟨fun h2=>?_,fun h2=>?_⟩
  ·simp only [bne_iff_ne] at h2
   exact retF (fun hp=>h2 (hp.some' (by omega)).2.1) hx0
  simp only [bne_eq_false_iff_eq] at h2
  refine ⟨fun h3=>?_,fun h3=>?_⟩
  ·simp only [bne_iff_ne] at h3
   exact retF (fun hp=>h3 (hp.some' (by omega)).2.2.1) hx0
  simp only [bne_eq_false_iff_eq] at h3
  refine forI (n:=d.cons.length) (hfl ▸ hf.lim) (fun k m'=>Ext m2 m'/\∀ f ∈ d.cons.take k,f.length<=3/\AllTy ds.length f) ⟨Ext.refl _,by simp⟩ ?_
  rintro j m3 I μ hj ⟨hx,hn⟩ next
  refine ⟨fun h4=>?_,fun h4=>?_⟩
  ·simp only [decide_eq_true_eq] at h4
   obtain ⟨c,hc⟩:=q00 (l:=d.cons) (k:=j) (by omega)
   obtain ⟨g,hg,gg⟩:=(ConSl.ext (hx0.trans hx) hf).at' hc
   have hgl:=hg.len
   refine ⟨by omega,by omega,g,by simpa using gg,fun h5=>?_,fun h5=>?_⟩
   ·simp only [decide_eq_true_eq] at h5
    exact retF (fun hp=>by have:=((hp.some' (by omega)).2.2.2 c (q05 hc)).1; omega) (hx0.trans hx)
   ·simp only [decide_eq_false_iff_not] at h5
    refine ⟨by omega,by omega,g,by simpa using gg,?_⟩
    refine (qdc hg _).thenS hx hl fun b m4 hb h6 h7=>⟨_,rfl,fun h8=>?_,fun h8=>?_⟩
    ·exact retF (fun hp=>nb hb h8 (hdl ▸ ((hp.some' (by omega)).2.2.2 c (q05 hc)).2)) (hx0.trans h7)
    ·exact next (by omega) _ ⟨h7,q0f hc hn ⟨by omega,hdl ▸ yb hb h8⟩⟩
  ·simp only [decide_eq_false_iff_not] at h4
   exact retT ⟨fun _=>⟨by omega,h2,h3,q0w (by omega) hn⟩,fun h0=>by omega⟩ (hx0.trans hx)
 ·simp only [decide_eq_false_iff_not] at h
  have hz:d.cons.length=0:=by omega
  have hdlim:=hd.lim
  refine forI (n:=k) (by omega) (fun k m'=>Ext m2 m'/\∀ e ∈ ds.take k,¬ (e.cons.length=0/\e.frm=d.frm/\e.to=d.to)) ⟨Ext.refl _,by simp⟩ ?_
  rintro j m3 I μ hj ⟨hx,hn⟩ next
  refine ⟨fun h4=>?_,fun h4=>?_⟩
  ·simp only [decide_eq_true_eq] at h4
   obtain ⟨e,he⟩:=q00 (l:=ds) (k:=j) (by omega)
   obtain ⟨f',hf',q0,q1,q2⟩:=(q0q.ext (hx0.trans hx) hd).at' he
   have hfl':=hf'.len
   have hnext:¬ (e.cons.length=0/\e.frm=d.frm/\e.to=d.to)->I (w64 ((j:Int)+1)) m3/\μ (w64 ((j:Int)+1)) m3 < μ j m3:=fun hq=>next (by omega) _ ⟨hx,q0f he hn hq⟩
   refine ⟨by omega,by omega,f',by simpa using q2,fun h5=>?_,fun h5=>?_⟩
   ·simp only [beq_iff_eq] at h5
    refine ⟨by omega,by omega,_,by simpa using q0,fun h6=>?_,fun h6=>?_⟩
    ·simp only [beq_iff_eq] at h6
     refine ⟨by omega,by omega,_,by simpa using q1,fun h7=>?_,fun h7=>?_⟩
     ·simp only [beq_iff_eq] at h7
      have hm:e ∈ ds.take k:=by
       rw [List.mem_iff_getElem?]; exact ⟨j,by rw [List.getElem?_take,if_pos (by omega)]; exact he⟩
      exact retF (fun hp=>(hp.none' hz).1 e hm ⟨by omega,h6,h7⟩) (hx0.trans hx)
     ·simp only [beq_eq_false_iff_ne] at h7
      exact hnext (fun hq=>h7 hq.2.2)
    ·simp only [beq_eq_false_iff_ne] at h6
     exact hnext (fun hq=>h6 hq.2.1)
   ·simp only [beq_eq_false_iff_ne] at h5
    exact hnext (fun hq=>h5 (by omega))
  ·simp only [decide_eq_false_iff_not] at h4
   have ej:j=k:=by omega
   subst ej
   refine (q0e _ _ _ _).thenS hx hl fun b m4 hb h6 h7=>⟨_,rfl,fun h8=>?_,fun h8=>?_⟩
   ·have h8:=hb.1 h8
    refine (q0e _ _ _ _).thenS h7 hl fun b m5 hb h9 h10=>⟨_,rfl,retB ?_ (hx0.trans h10)⟩
    rw [hb]
    rw [hdl] at h8 ⊢
    exact ⟨fun h=>⟨fun h0=>by omega,fun _=>⟨hn,h8,h⟩⟩,fun h=>(h.none' hz).2.2⟩
   ·exact retF (fun hp=>fb hb h8 (hdl ▸ (hp.none' hz).2.1)) (hx0.trans h7)
theorem qkb {m:Mem} {decls:Sl} {ds:List Decl} (hd:q0q m decls ds):q0o Tryz.prog q74 [Sl.v decls] m (TypesOk ds):=by
 apply qfj
 have hdl:=hd.len
 refine ⟨fun h=>?_,fun h=>?_⟩
 ·simp only [decide_eq_true_eq] at h
  exact retF (fun hp=>by have:=hp.len; omega) (Ext.refl _)
 ·simp only [decide_eq_false_iff_not] at h
  refine forI (n:=ds.length) (by omega) (fun k m'=>Ext m m'/\∀ (j:Nat) (d:Decl),j < k->ds[j]?=some d->DeclOk ds j d) ⟨Ext.refl _,by simp⟩ ?_
  rintro j m3 I μ hj ⟨hx,hn⟩ next
  refine ⟨fun h4=>?_,fun h4=>?_⟩
  ·simp only [decide_eq_true_eq] at h4
   obtain ⟨e,he⟩:=q00 (l:=ds) (k:=j) (by omega)
   refine (qks (q0q.ext hx hd) he).then fun b m4 hb h5=>⟨_,rfl,fun h6=>?_,fun h6=>?_⟩
   ·exact retF (fun hp=>nb hb h6 (hp.each j e he)) (hx.trans h5)
   ·refine next (by omega) _ ⟨hx.trans h5,fun i d hi hid=>?_⟩
    by_cases eij:i=j
    ·subst eij
     rw [he] at hid; simp at hid; subst hid
     exact yb hb h6
    ·exact hn i d (by omega) hid
  ·simp only [decide_eq_false_iff_not] at h4
   exact retT ⟨by omega,fun i d hid=>hn i d (by have:=q04 hid; omega) hid⟩ hx
end
end Go.Proofs.YtpggcodlaajceaaGreat
section
/- Slices that grow by append, in blocks of their own. -/
namespace Go.Vc
structure Own (m0 m:Mem) (e sz:Nat) (s:Sl) (l:List Ce):Prop where
 len:l.length=s.len*sz
 at':s=.nil \/ ∃ b c tail,s=.mk b 0 s.len c/\m0.size<=b/\Blk m b e (l ++ tail)/\(l ++ tail).length=c*sz/\s.len<=c
theorem Own.nil (m0 m:Mem) (e sz:Nat):Own m0 m e sz .nil []:=⟨by simp,Or.inl rfl⟩
theorem Own.new {m0 m:Mem} (h:Ext m0 m) (e sz:Nat) (l:List Ce) (k:Nat) (hk:l.length=k*sz):Own m0 (m.push (.cells (vals l) e)) e sz (.mk m.size 0 k k) l :=
 ⟨hk,Or.inr ⟨m.size,k,[],rfl,h.size,by rw [List.append_nil]; exact Blk.push _ _ _,by simpa using hk,Nat.le_refl _⟩⟩
theorem Own.congr {m0 m m':Mem} {e sz:Nat} {s:Sl} {l:List Ce} (h:Own m0 m e sz s l) (hb:m'[s.blk]?=m[s.blk]?):Own m0 m' e sz s l:=by
 refine ⟨h.len,?_⟩
 rcases h.at' with h1 | ⟨b,c,tail,h1,h2,h3,h4,h5⟩
 ·exact Or.inl h1
 ·refine Or.inr ⟨b,c,tail,h1,h2,h3.congr ?_,h4,h5⟩
  rw [h1] at hb; exact hb
theorem Own.lt {m0 m:Mem} {e sz:Nat} {s:Sl} {l:List Ce} (h:Own m0 m e sz s l):s=.nil \/ s.blk < m.size:=by
 rcases h.at' with h1 | ⟨b,c,tail,h1,h2,h3,h4,h5⟩
 ·exact Or.inl h1
 ·rw [h1]; exact Or.inr h3.lt
theorem Own.ext {m0 m m':Mem} {e sz:Nat} {s:Sl} {l:List Ce} (h:Own m0 m e sz s l) (hx:Ext m m'):Own m0 m' e sz s l:=by
 rcases h.lt with h1 | h1
 ·subst h1; exact ⟨h.len,Or.inl rfl⟩
 ·exact h.congr (hx.same _ h1)
theorem Own.base {m0 m1 m:Mem} {e sz:Nat} {s:Sl} {l:List Ce} (h:Own m1 m e sz s l) (hs:m0.size<=m1.size):Own m0 m e sz s l:=by
 refine ⟨h.len,?_⟩
 rcases h.at' with h1 | ⟨b,c,tail,h1,h2,h3,h4,h5⟩
 ·exact Or.inl h1
 ·exact Or.inr ⟨b,c,tail,h1,Nat.le_trans hs h2,h3,h4,h5⟩
theorem Own.blk {m0 m:Mem} {e sz:Nat} {s:Sl} {l:List Ce} (h:Own m0 m e sz s l):s=.nil \/ m0.size<=s.blk:=by
 rcases h.at' with h1 | ⟨b,c,tail,h1,h2,h3,h4,h5⟩
 ·exact Or.inl h1
 ·rw [h1]; exact Or.inr h2
theorem rowIs.pre {m:Mem} {b o:Nat} {l r:List Ce} (h:rowIs m b o (l ++ r)):rowIs m b o l:=fun i c hc=>h i c (by rw [List.getElem?_append_left (q04 hc)]; exact hc)
theorem Own.row {m0 m:Mem} {e sz:Nat} {s:Sl} {l:List Ce} (h:Own m0 m e sz s l):rowIs m s.blk s.off l:=by
 rcases h.at' with h1 | ⟨b,c,tail,h1,h2,h3,h4,h5⟩
 ·have:l=[]:=List.length_eq_zero_iff.1 (by rw [h.len,h1]; simp)
  subst this; intro i c hc; simp at hc
 ·rw [h1]; exact h3.row.pre
theorem qfm (l new tail:List Ce) (h:new.length<=tail.length):setL (l ++ tail) l.length new=l ++ new ++ tail.drop new.length:=by
 apply List.ext_getElem?
 intro i
 rw [qde]
 simp only [List.length_append]
 by_cases h1:l.length<=i/\i < l.length+new.length/\i < l.length+tail.length
 ·rw [if_pos h1,List.append_assoc,List.getElem?_append_right h1.1,List.getElem?_append_left (by omega)]
 ·rw [if_neg h1]
  by_cases h2:i < l.length
  ·rw [List.getElem?_append_left h2,List.append_assoc,List.getElem?_append_left h2]
  ·rw [List.getElem?_append_right (by omega),List.append_assoc,List.getElem?_append_right (by omega),List.getElem?_append_right (by omega),List.getElem?_drop]
   congr 1; omega
theorem Own.append {m0 m:Mem} {e:Nat} {zs:List Ce} {bytes:Nat} {s x:Sl} {l new:List Ce} {K:Sl->Mem->Prop} (h:Own m0 m e zs.length s l) (hm:Ext m0 m)
  (hn:new.length=x.len*zs.length) (hr:rowIs m x.blk x.off new) (hb:(s.len+x.len)*bytes<=140737488355328)
  (hk:∀ r m',Own m0 m' e zs.length r (l ++ new)->Ext m0 m'->r.len=s.len+x.len->m.size<=m'.size->(∀ b,b < m.size->(s ≠ .nil->b ≠ s.blk)->m'[b]?=m[b]?)->(r=.nil \/ (s ≠ .nil/\r.blk=s.blk) \/ r.blk=m.size)->K r m') :
  appC m e zs bytes s x K:=by
 refine ⟨new,hn,hr,fun hle=>?_,fun hgt=>⟨hb,l,h.len,h.row,fun c hc=>?_⟩⟩
 ·rcases h.at' with h1 | ⟨b,c,tail,h1,h2,h3,h4,h5⟩
  ·subst h1
   have hx0:x.len=0:=by simpa using hle
   have hn0:new=[]:=List.length_eq_zero_iff.1 (by rw [hn,hx0]; simp)
   subst hn0
   refine ⟨fun j hj=>by simp at hj,?_⟩
   exact hk .nil _ ⟨by rw [List.append_nil]; exact h.len,Or.inl rfl⟩ (by simpa [scells] using hm) (by simp [hx0]) (Nat.le_of_eq (q02 _ _ _ _).symm) (fun b hb _=>by simp [scells]) (Or.inl rfl)
  ·have hlen:=h.len
   have hcap:s.cap=c:=by rw [h1]; rfl
   rw [h1]
   simp only [Sl.blk_mk,Sl.off_mk,Sl.len_mk,Nat.zero_add]
   simp only [List.length_append] at h4
   have hfit:new.length<=tail.length:=by
    have h6:(s.len+x.len)*zs.length<=c*zs.length:=Nat.mul_le_mul_right _ (by omega)
    rw [Nat.add_mul] at h6
    omega
   refine ⟨h3.wrOk (by simp only [List.length_append]; omega),?_⟩
   have hB:=Blk.scells (m:=m) (b:=b) (e:=e) (r:=new) (o:=s.len*zs.length) h3
   rw [← hlen,qfm l new tail hfit] at hB
   refine hk _ _ ⟨?_,Or.inr ⟨b,c,tail.drop new.length,rfl,h2,?_,?_,?_⟩⟩ (hm.scells h2 _ _) (by simp) (Nat.le_of_eq (q02 _ _ _ _).symm) (fun b' _ hne=>q0n _ _ _ _ ?_) (Or.inr (Or.inl ⟨by rw [h1]; simp,by rw [h1]; rfl⟩))
   ·simp only [List.length_append,Sl.len_mk,Nat.add_mul]; omega
   ·rw [← hlen]; exact hB
   ·simp only [List.length_append,List.length_drop]; omega
   ·simp only [Sl.len_mk]; omega
   ·have:=hne (by rw [h1]; simp)
    rw [h1] at this; exact this
 ·refine hk _ _ ⟨?_,Or.inr ⟨m.size,c,zrow zs (c - (s.len+x.len)),rfl,hm.size,Blk.push _ _ _,?_,by simpa using hc⟩⟩ (hm.pushed _) (by simp) (by simp) (fun b hb _=>by rw [Array.getElem?_push,if_neg (by omega)]) (Or.inr (Or.inr rfl))
  ·simp only [List.length_append,Sl.len_mk,Nat.add_mul,h.len,hn]
  ·simp only [List.length_append,q7r,h.len,hn]
   rw [Nat.sub_mul,← Nat.add_mul]
   have:(s.len+x.len)*zs.length<=c*zs.length:=Nat.mul_le_mul_right _ hc
   omega
theorem q03.ofOwn {m0 m:Mem} {e:Nat} {s:Sl} {l:List Int} (h:Own m0 m e 1 s (l.map Ce.i)) (hl:l.length<=9223372036854775807):q03 m s l:=by
 have hlen:s.len=l.length:=by have:=h.len; simp at this; omega
 refine ⟨hlen,?_,by omega,fun k x hk=>⟨[.i x],rfl,fun i c hc=>?_⟩⟩
 ·rcases h.at' with h1 | ⟨b,c,tail,h1,h2,h3,h4,h5⟩
  ·rw [h1]; exact Nat.le_refl _
  ·rw [h1]; exact h5
 ·have hi:i=0:=by have:=q04 hc; simp at this; omega
  subst hi
  simp at hc; subst hc
  have:=h.row k (.i x) (by simp [hk])
  simpa using this
theorem q1z {sz:Nat}:∀ {css:List (List Ce)} (_:∀ cs ∈ css,cs.length=sz) {j:Nat} {cs:List Ce} (_:css[j]?=some cs) {i:Nat} {c:Ce} (_:cs[i]?=some c),css.flatten[j*sz+i]?=some c
 | [],_,j,cs,h,_,_,_=>by simp at h
 | x :: css,hl,0,cs,h,i,c,hc=>by
  simp at h; subst h
  rw [List.flatten_cons,Nat.zero_mul,Nat.zero_add,List.getElem?_append_left (q04 hc)]; exact hc
 | x :: css,hl,j+1,cs,h,i,c,hc=>by
  have hx:x.length=sz:=hl x List.mem_cons_self
  rw [List.flatten_cons,List.getElem?_append_right (by rw [hx,Nat.add_mul]; omega)]
  have:=q1z (css:=css) (fun y hy=>hl y (List.mem_cons_of_mem _ hy)) (j:=j) (by simpa using h) hc
  rw [← this]; congr 1; rw [hx,Nat.add_mul]; omega
theorem q0g {sz:Nat}:∀ {css:List (List Ce)},(∀ cs ∈ css,cs.length=sz)->css.flatten.length=css.length*sz
 | [],_=>by simp
 | x :: css,hl=>by
  rw [List.flatten_cons,List.length_append,q0g (fun y hy=>hl y (List.mem_cons_of_mem _ hy)),hl x List.mem_cons_self,List.length_cons,Nat.add_mul]; omega
structure RowsOf {α:Type} (sz:Nat) (R:List Ce->α->Prop) (css:List (List Ce)) (l:List α):Prop where
 len:css.length=l.length
 size:∀ cs ∈ css,cs.length=sz
 each:∀ (j:Nat) (cs:List Ce) (x:α),css[j]?=some cs->l[j]?=some x->R cs x
theorem RowsOf.nil {α:Type} (sz:Nat) (R:List Ce->α->Prop):RowsOf sz R [] []:=⟨rfl,by simp,by simp⟩
theorem RowsOf.snoc {α:Type} {sz:Nat} {R:List Ce->α->Prop} {css:List (List Ce)} {l:List α} (h:RowsOf sz R css l) {cs:List Ce} {x:α} (hs:cs.length=sz) (hx:R cs x):RowsOf sz R (css ++ [cs]) (l ++ [x]):=by
 refine ⟨by simp [h.len],fun c hc=>?_,fun j c y hc hy=>?_⟩
 ·rcases List.mem_append.1 hc with hc | hc
  ·exact h.size c hc
  ·simp at hc; subst hc; exact hs
 ·rcases Nat.lt_or_ge j css.length with hj | hj
  ·rw [List.getElem?_append_left hj] at hc
   rw [List.getElem?_append_left (h.len ▸ hj)] at hy
   exact h.each j c y hc hy
  ·rw [List.getElem?_append_right hj] at hc
   rw [List.getElem?_append_right (by rw [← h.len]; exact hj),← h.len] at hy
   have hj0:j - css.length=0:=by have:=q04 hc; simp at this; omega
   rw [hj0] at hc hy
   simp at hc hy; subst hc; subst hy; exact hx
theorem RowsOf.mono {α:Type} {sz:Nat} {R R':List Ce->α->Prop} {css:List (List Ce)} {l:List α} (h:RowsOf sz R css l) (hR:∀ cs x,R cs x->R' cs x):RowsOf sz R' css l :=
 ⟨h.len,h.size,fun j cs x h1 h2=>hR _ _ (h.each j cs x h1 h2)⟩
theorem SlOf.ofOwn {α:Type} {m0 m:Mem} {e sz:Nat} {R:List Ce->α->Prop} {s:Sl} {css:List (List Ce)} {l:List α} (h:Own m0 m e sz s css.flatten) (hr:RowsOf sz R css l) (hz:0 < sz) (hl:l.length<=9223372036854775807):SlOf m sz R s l:=by
 have hlen:s.len=l.length:=by
  have h1:=h.len
  rw [q0g hr.size] at h1
  have:=Nat.eq_of_mul_eq_mul_right hz h1
  rw [← this,hr.len]
 refine ⟨hlen,?_,by omega,fun k x hk=>?_⟩
 ·rcases h.at' with h1 | ⟨b,c,tail,h1,h2,h3,h4,h5⟩
  ·rw [h1]; exact Nat.le_refl _
  ·rw [h1]; exact h5
 ·obtain ⟨cs,hcs⟩:=q00 (l:=css) (k:=k) (by rw [hr.len]; exact q04 hk)
  refine ⟨cs,hr.each k cs x hcs hk,fun i c hc=>?_⟩
  have:=h.row (k*sz+i) c (q1z hr.size hcs hc)
  rwa [← Nat.add_assoc] at this
end Go.Vc
end
namespace Go.Proofs.YtpggcodlaajceaaGreat
open Go.Vc
section
def fc:List Decl->Nat->Nat
 | _,0=>0
 | [],_=>0
 | d :: ds,k+1=>d.cons.length+fc ds k
def q17 (ds:List Decl):List (List Int):=ds.flatMap Decl.cons
theorem fc_nil (k:Nat):fc [] k=0:=by cases k <;> rfl
theorem q6u:∀ {ds:List Decl} {k:Nat} {d:Decl},ds[k]?=some d->fc ds (k+1)=fc ds k+d.cons.length
 | [],k,d,h=>by simp at h
 | e :: ds,0,d,h=>by
  simp at h; subst h
  simp only [fc]
  cases ds <;> simp [fc]
 | e :: ds,k+1,d,h=>by
  have:=q6u (ds:=ds) (k:=k) (d:=d) (by simpa using h)
  simp only [fc] at this ⊢
  omega
theorem fc_all:∀ (ds:List Decl) (k:Nat),ds.length<=k->fc ds k=(q17 ds).length
 | [],k,_=>by rw [fc_nil]; rfl
 | d :: ds,0,h=>by simp at h
 | d :: ds,k+1,h=>by
  have:=fc_all ds k (by simpa using h)
  simp only [fc,q17,List.flatMap_cons,List.length_append] at this ⊢
  omega
theorem qsi:∀ (ds:List Decl) {i j:Nat},i<=j->fc ds i<=fc ds j
 | [],i,j,_=>by simp [fc_nil]
 | d :: ds,0,j,_=>by simp [fc]
 | d :: ds,i+1,0,h=>by omega
 | d :: ds,i+1,j+1,h=>by
  have:=qsi ds (i:=i) (j:=j) (by omega)
  simp only [fc]; omega
theorem q5s {ds:List Decl} (h:TypesOk ds) {k:Nat} {d:Decl} (hk:ds[k]?=some d):d.cons.length<=3:=by
 rcases Nat.eq_zero_or_pos d.cons.length with h0 | h0
 ·omega
 ·exact ((h.each k d hk).some' h0).1
theorem fc_le {ds:List Decl} (h:TypesOk ds):∀ k,fc ds k<=3*k
 | 0=>by cases ds <;> simp [fc]
 | k+1=>by
  have ih:=fc_le h k
  rcases Nat.lt_or_ge k ds.length with hk | hk
  ·obtain ⟨d,hd⟩:=q00 hk
   rw [q6u hd]
   have:=q5s h hd
   omega
  ·rw [fc_all ds (k+1) (by omega),← fc_all ds k hk]; omega
theorem fc_12 {ds:List Decl} (h:TypesOk ds) (k:Nat):fc ds k<=12:=by
 rcases Nat.lt_or_ge k ds.length with hk | hk
 ·have:=fc_le h k; have:=h.len; omega
 ·rw [fc_all ds k hk,← fc_all ds ds.length (Nat.le_refl _)]
  have:=fc_le h ds.length; have:=h.len; omega
theorem qei:∀ (ds:List Decl) (i j:Nat) (d:Decl),ds[i]?=some d->j < d.cons.length->(q17 ds)[fc ds i+j]?=d.cons[j]?
 | [],i,j,d,h,_=>by simp at h
 | e :: ds,0,j,d,h,hj=>by
  simp at h; subst h
  simp only [fc,q17,List.flatMap_cons,Nat.zero_add]
  rw [List.getElem?_append_left hj]
 | e :: ds,i+1,j,d,h,hj=>by
  have:=qei ds i j d (by simpa using h) hj
  simp only [fc,q17,List.flatMap_cons] at this ⊢
  rw [List.getElem?_append_right (by omega),← this]
  congr 1; omega
theorem qhg:∀ (ds:List Decl) (c:Nat),c < (q17 ds).length->∃ i d,ds[i]?=some d/\fc ds i<=c/\c < fc ds i+d.cons.length
 | [],c,h=>by simp [q17] at h
 | e :: ds,c,h=>by
  rcases Nat.lt_or_ge c e.cons.length with hc | hc
  ·exact ⟨0,e,by simp,by simp [fc],by simpa [fc] using hc⟩
  ·obtain ⟨i,d,h1,h2,h3⟩:=qhg ds (c - e.cons.length) (by simp only [q17,List.flatMap_cons,List.length_append] at h ⊢; omega)
   exact ⟨i+1,d,by simpa using h1,by simp only [fc]; omega,by simp only [fc]; omega⟩
theorem q5w {m:Mem} {decls:Sl} {ds:List Decl} (hd:q0q m decls ds) (ht:TypesOk ds) {k:Nat} (hk:k<=ds.length):Gets Tryz.prog q44 [Sl.v decls,vi k] m (vi (fc ds k)):=by
 apply qhw
 have hdl:=hd.len
 have:=ht.len
 refine forSI (n:=k) (by omega) (fun j n m'=>Ext m m'/\n=(fc ds j:Nat)) ⟨Ext.refl _,by cases ds <;> rfl⟩ ?_
 rintro j n m1 I μ hj ⟨hx,rfl⟩ next
 refine ⟨fun h=>?_,fun h=>?_⟩
 ·simp only [decide_eq_true_eq] at h
  obtain ⟨d,hd1⟩:=q00 (l:=ds) (k:=j) (by omega)
  obtain ⟨f,hf,g0,g1,g2⟩:=(q0q.ext hx hd).at' hd1
  refine ⟨by omega,by omega,f,by simpa using g2,?_⟩
  refine next (by omega) _ _ ⟨hx,?_⟩
  have h1:=fc_12 ht j
  have h2:=q5s ht hd1
  rw [q07 (by omega) (by have:=hf.len; omega),q6u hd1,hf.len]; rfl
 ·simp only [decide_eq_false_iff_not] at h
  have:j=k:=by omega
  subst this
  exact ⟨rfl,hx⟩
theorem q8r {m:Mem} {decls:Sl} {ds:List Decl} (hd:q0q m decls ds) (ht:TypesOk ds):Gets Tryz.prog q4y [Sl.v decls] m (vi (q17 ds).length):=by
 apply qhq
 have hdl:=hd.len
 have:=ht.len
 refine forSI (n:=ds.length) (by omega) (fun j n m'=>Ext m m'/\n=(fc ds j:Nat)) ⟨Ext.refl _,by cases ds <;> rfl⟩ ?_
 rintro j n m1 I μ hj ⟨hx,rfl⟩ next
 refine ⟨fun h=>?_,fun h=>?_⟩
 ·simp only [decide_eq_true_eq] at h
  obtain ⟨d,hd1⟩:=q00 (l:=ds) (k:=j) (by omega)
  obtain ⟨f,hf,g0,g1,g2⟩:=(q0q.ext hx hd).at' hd1
  refine ⟨by omega,by omega,f,by simpa using g2,?_⟩
  refine next (by omega) _ _ ⟨hx,?_⟩
  have h1:=fc_12 ht j
  have h2:=q5s ht hd1
  rw [q07 (by omega) (by have:=hf.len; omega),q6u hd1,hf.len]; rfl
 ·simp only [decide_eq_false_iff_not] at h
  refine ⟨?_,hx⟩
  rw [fc_all ds j (by omega)]
def ConTy (ds:List Decl) (c t:Int):Prop :=
 (∃ (i:Nat) (d:Decl),t=i+1/\ds[i]?=some d/\(fc ds i:Int)<=c/\c < fc ds i+d.cons.length) \/ (t=-1/\¬ (0<=c/\c < (q17 ds).length))
theorem qe8 {m:Mem} {decls:Sl} {ds:List Decl} (hd:q0q m decls ds) (ht:TypesOk ds) (c:Int):q08 Tryz.prog q6x [Sl.v decls,vi c] m fun v m'=>∃ t,v=vi t/\ConTy ds c t/\Ext m m':=by
 apply qkc
 have hdl:=hd.len
 have:=ht.len
 refine forI (n:=ds.length) (by omega) (fun j m'=>Ext m m'/\∀ (i:Nat) (d:Decl),i < j->ds[i]?=some d->¬ ((fc ds i:Int)<=c/\c < fc ds i+d.cons.length)) ⟨Ext.refl _,by simp⟩ ?_
 rintro j m1 I μ hj ⟨hx,hn⟩ next
 refine ⟨fun h=>?_,fun h=>?_⟩
 ·simp only [decide_eq_true_eq] at h
  obtain ⟨d,hd1⟩:=q00 (l:=ds) (k:=j) (by omega)
  refine (q5w (q0q.ext hx hd) ht (by omega)).then fun m2 h2=>⟨_,rfl,?_⟩
  obtain ⟨f,hf,g0,g1,g2⟩:=(q0q.ext (hx.trans h2) hd).at' hd1
  refine ⟨by omega,by omega,f,by simpa using g2,?_⟩
  have h1:=fc_12 ht j
  have h3:=q5s ht hd1
  have hfl:=hf.len
  have e1:w64 (w64 ((fc ds j:Int)+(f.len:Int)) - 1)=(fc ds j:Int)+d.cons.length - 1:=by
   rw [q07 (x:=(fc ds j:Int)+(f.len:Int)) (by omega) (by omega),q07 (by omega) (by omega),hfl]
  rw [e1]
  refine (q0e _ _ _ _).then fun b m3 hb h4=>⟨_,rfl,fun h5=>?_,fun h5=>?_⟩
  ·have h5:=hb.1 h5
   refine ⟨_,rfl,Or.inl ⟨j,d,?_,hd1,by omega,by omega⟩,(hx.trans h2).trans h4⟩
   rw [q07 (by omega) (by omega)]
  ·refine next (by omega) _ ⟨(hx.trans h2).trans h4,fun i d' hi hd'=>?_⟩
   by_cases e:i=j
   ·subst e
    rw [hd1] at hd'; simp at hd'; subst hd'
    intro hq
    exact fb hb h5 ⟨hq.1,by omega⟩
   ·exact hn i d' (by omega) hd'
 ·simp only [decide_eq_false_iff_not] at h
  refine ⟨_,rfl,Or.inr ⟨rfl,fun hq=>?_⟩,hx⟩
  obtain ⟨i,d,h1,h2,h3⟩:=qhg ds c.toNat (by omega)
  exact hn i d (by have:=q04 h1; omega) h1 ⟨by omega,by omega⟩
def q2m (ds:List Decl) (c:Int):List Int:=if 0<=c then ((q17 ds)[c.toNat]?).getD [] else []
theorem ql6 {m:Mem} {decls:Sl} {ds:List Decl} (hd:q0q m decls ds) (ht:TypesOk ds) (c:Int):q08 Tryz.prog q8s [Sl.v decls,vi c] m fun v m'=>∃ s,v=Sl.v s/\q03 m' s (q2m ds c)/\Ext m m':=by
 apply qfv
 have hdl:=hd.len
 have:=ht.len
 refine (qe8 hd ht c).mono ?_
 rintro _ m1 ⟨t,rfl,hct,hx⟩
 refine ⟨_,rfl,fun h=>?_,fun h=>?_⟩
 ·simp only [decide_eq_true_eq] at h
  refine ⟨_,rfl,?_,hx.pushed _⟩
  have e:q2m ds c=[]:=by
   rcases hct with ⟨i,d,h1,_⟩ | ⟨_,h2⟩
   ·omega
   ·unfold q2m
    split
    ·rw [List.getElem?_eq_none (by omega)]; rfl
    ·rfl
  rw [e]
  exact ⟨rfl,Nat.le_refl _,by simp,by simp⟩
 ·simp only [decide_eq_false_iff_not] at h
  rcases hct with ⟨i,d,rfl,h2,h3,h4⟩ | ⟨h1,_⟩
  ·have hil:=q04 h2
   obtain ⟨f,hf,g0,g1,g2⟩:=(q0q.ext hx hd).at' h2
   have e1:w64 ((i:Int)+1 - 1)=i:=by rw [q07 (by omega) (by omega)]; omega
   rw [e1]
   refine ⟨by omega,by omega,f,by simpa using g2,?_⟩
   refine (q5w (q0q.ext hx hd) ht (by omega)).then fun m2 h5=>⟨_,rfl,h5.keepG (by simpa using g2),?_⟩
   have h12:=fc_12 ht i
   have h6:=q5s ht h2
   have hfl:=hf.len
   obtain ⟨x,hx1⟩:=q00 (l:=d.cons) (k:=(c - fc ds i).toNat) (by omega)
   obtain ⟨g,hg,gg⟩:=(ConSl.ext h5 hf).at' hx1
   have e2:w64 (c - (fc ds i:Int))=c - fc ds i:=q07 (by omega) (by omega)
   rw [e2]
   refine ⟨by omega,by omega,g,gg,_,rfl,?_,hx.trans h5⟩
   have e3:q2m ds c=x:=by
    unfold q2m
    rw [if_pos (by omega)]
    have:=qei ds i (c - fc ds i).toNat d h2 (by omega)
    rw [show c.toNat=fc ds i+(c - fc ds i).toNat by omega,this,hx1]; rfl
   rw [e3]; exact hg
  ·omega
def q1h (ds:List Decl) (t:Int):List Int :=
 if 1<=t/\t<=ds.length then ((ds[t.toNat - 1]?).map fun d=>(List.range d.cons.length).map fun i=>((fc ds (t.toNat - 1)+i:Nat):Int)).getD [] else []
theorem qfc {m:Mem} {decls:Sl} {ds:List Decl} (hd:q0q m decls ds) (ht:TypesOk ds) (t:Int):q08 Tryz.prog q7v [Sl.v decls,vi t] m fun v m'=>∃ s,v=Sl.v s/\q03 m' s (q1h ds t)/\Ext m m':=by
 apply ql1
 intro m1
 have hdl:=hd.len
 have:=ht.len
 have hx1:Ext m m1:=(Ext.refl m).pushed _
 have ho:Own m m1 ty_int 1 (.mk m.size 0 0 0) []:=Own.new (Ext.refl m) ty_int 1 [] 0 (by simp)
 refine (q0e _ _ _ _).then fun b m2 hb h2=>⟨_,rfl,fun h=>?_,fun h=>?_⟩
 ·refine ⟨_,rfl,?_,hx1.trans h2⟩
  have e:q1h ds t=[]:=by
   unfold q1h
   rw [if_neg (by have:=nb hb h; omega)]
  rw [e]
  exact ⟨rfl,Nat.le_refl _,by simp,by simp⟩
 ·have h:=yb hb h
  have e1:w64 (t - 1)=((t.toNat - 1:Nat):Int):=by rw [q07 (by omega) (by omega)]; omega
  rw [e1]
  obtain ⟨d,hd1⟩:=q00 (l:=ds) (k:=t.toNat - 1) (by omega)
  have e2:q1h ds t=(List.range d.cons.length).map fun i=>((fc ds (t.toNat - 1)+i:Nat):Int):=by
   unfold q1h
   rw [if_pos (by omega),hd1]; rfl
  rw [e2]
  have h12:=fc_12 ht (t.toNat - 1)
  have h6:=q5s ht hd1
  refine forSI (n:=d.cons.length) (by omega) (fun j s m'=>Ext m m'/\Own m m' ty_int 1 s (((List.range j).map fun i=>((fc ds (t.toNat - 1)+i:Nat):Int)).map Ce.i)/\s.len=j) ⟨hx1.trans h2,by simpa using ho.ext h2,rfl⟩ ?_
  rintro j s m3 I μ hj ⟨hx,hs,hsl⟩ next
  obtain ⟨f,hf,g0,g1,g2⟩:=(q0q.ext hx hd).at' hd1
  have hfl:=hf.len
  refine ⟨by omega,by omega,f,by simpa using g2,fun h3=>?_,fun h3=>?_⟩
  ·simp only [decide_eq_true_eq] at h3
   refine (q5w (q0q.ext hx hd) ht (by omega)).then fun m4 h4=>⟨_,rfl,?_⟩
   intro m5
   have e3:w64 (((fc ds (t.toNat - 1):Nat):Int)+(j:Int))=((fc ds (t.toNat - 1)+j:Nat):Int):=by rw [q07 (by omega) (by omega)]; omega
   have hm5:m5=m4.push (.cells (vals [.i (((fc ds (t.toNat - 1)+j:Nat):Int))]) ty_int):=by rw [← e3]
   clear_value m5
   subst hm5
   refine Own.append (zs:=[.i 0]) (new:=[.i ((fc ds (t.toNat - 1)+j:Nat):Int)]) ((hs.ext h4).ext (Ext.push _ _)) ((hx.trans h4).pushed _) rfl (Blk.push _ _ _).row (by simp [hsl]; omega) ?_
   intro r m' h7 h8 h9 h10 h11 _
   refine next (by omega) _ _ ⟨h8,?_,by simp [h9,hsl]⟩
   rw [List.range_succ,List.map_append,List.map_append]
   exact h7
  ·simp only [decide_eq_false_iff_not] at h3
   have:j=d.cons.length:=by omega
   subst this
   exact ⟨_,rfl,q03.ofOwn hs (by simp; omega),hx⟩
end
end Go.Proofs.YtpggcodlaajceaaGreat
