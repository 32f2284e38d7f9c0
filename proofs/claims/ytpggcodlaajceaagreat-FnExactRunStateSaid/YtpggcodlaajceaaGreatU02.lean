/- Part of a proof, joined by a program: Cn02 Cn03 Cn04 Cn05 Cn06 Cn07 Cn08 Cn09 Cn10. -/
import Derived.Test.YtpggcodlaajceaaGreatU01
set_option linter.unusedVariables false
set_option linter.unusedSimpArgs false
namespace Go.Proofs.YtpggcodlaajceaaGreat
open Go.Vc
section
set_option linter.unusedVariables false
set_option maxRecDepth 100000
variable {m:Mem} {R:Value->Mem->Prop}
theorem qbk (a b:Sl) (c d e f:Int) (g h i:Sl) (j:Int) (h' :
 let k:=m.push (.cells (vals [.s a,.s b]) 25)
 let l:=k.push (.cells (vals [.i c,.i d,.i e,.i f,.s g,.s h,.s i]) 50)
 eT m.size (cI qaz [.agg #[Sl.v a,Sl.v b],vi 1048576] [k.size,m.size] l fun n o=>
 iP (decide (n < 0)) (R (vb true) o) (eT k.size (cI qar [.agg #[vi c,vi d,vi e,vi f,Sl.v g,Sl.v h,Sl.v i],vi n] [k.size,m.size] o fun p q=>
 iP (decide (p < 0)) (R (vb true) q) (∃ s:(Nat × Nat)->Bool->Mem->Prop,
 (eT m.size (eT k.size ((cV q2v [.agg #[Sl.v a,Sl.v b]] q fun t u=>
 Sam [k.size,m.size] q u /\
 ∃ v:Sl,∃ x:Sl,t=.agg #[Sl.v v,Sl.v x] /\
 gk u q k.size 0 /\
 gk u q k.size 1 /\
 gk u q k.size 2 /\
 gk u q k.size 3 /\
 gk u q k.size 4 /\
 gk u q k.size 5 /\
 gk u q k.size 6 /\
 (cV q26 [.agg #[vi c,vi d,vi e,vi f,Sl.v g,Sl.v h,Sl.v i]] u fun y z=>
 Sam [k.size,m.size] u z /\
 ∃ A:Int,∃ B:Int,∃ C:Int,∃ D:Int,∃ E:Sl,∃ F:Sl,∃ G:Sl,y=.agg #[vi A,vi B,vi C,vi D,Sl.v E,Sl.v F,Sl.v G] /\
 (cV q3i [.agg #[Sl.v v,Sl.v x],.agg #[vi A,vi B,vi C,vi D,Sl.v E,Sl.v F,Sl.v G],vi j] z fun H J=>
 Sam [k.size,m.size] z J /\
 ∃ K:Int,∃ L:Int,∃ M:Int,∃ N:Int,∃ O:Sl,∃ P:Sl,∃ Q:Sl,∃ S:Bool,H=.tuple #[.agg #[vi K,vi L,vi M,vi N,Sl.v O,Sl.v P,Sl.v Q],vb S] /\
 let T:=J.push (.cells (vals [.i 0,.i 0,.i 0,.i 0,.s Sl.nil,.s Sl.nil,.s Sl.nil]) 55)
 gk T J k.size 0 /\
 gk T J k.size 1 /\
 gk T J k.size 2 /\
 gk T J k.size 3 /\
 gk T J k.size 4 /\
 gk T J k.size 5 /\
 gk T J k.size 6 /\
 gk T J m.size 0 /\
 gk T J m.size 1 /\
 eT J.size (let U:=scells T J.size 0 [.i K,.i L,.i M,.i N,.s O,.s P,.s Q]
 eS k.size 50 [.i c,.i d,.i e,.i f,.s g,.s h,.s i] (eS m.size 25 [.s a,.s b] (s (J.size,0) S U)))) /\
 (let H:=z.push (.cells (vals [.i 0,.i 0,.i 0,.i 0,.s Sl.nil,.s Sl.nil,.s Sl.nil]) 55)
 gk H z k.size 0 /\
 gk H z k.size 1 /\
 gk H z k.size 2 /\
 gk H z k.size 3 /\
 gk H z k.size 4 /\
 gk H z k.size 5 /\
 gk H z k.size 6 /\
 gk H z m.size 0 /\
 gk H z m.size 1 /\
 cV q3i [.agg #[Sl.v v,Sl.v x],.agg #[vi A,vi B,vi C,vi D,Sl.v E,Sl.v F,Sl.v G],vi j] H fun J K=>
 Sam [z.size,k.size,m.size] H K /\
 ∃ L:Int,∃ M:Int,∃ N:Int,∃ O:Int,∃ P:Sl,∃ Q:Sl,∃ S:Sl,∃ T:Bool,J=.tuple #[.agg #[vi L,vi M,vi N,vi O,Sl.v P,Sl.v Q,Sl.v S],vb T] /\
 eT z.size (let U:=scells K z.size 0 [.i L,.i M,.i N,.i O,.s P,.s Q,.s S]
 eS k.size 50 [.i c,.i d,.i e,.i f,.s g,.s h,.s i] (eS m.size 25 [.s a,.s b] (s (z.size,0) T U))))) /\
 (let y:=u.push (.cells (vals [.i 0,.i 0,.i 0,.i 0,.s Sl.nil,.s Sl.nil,.s Sl.nil]) 55)
 gk y u k.size 0 /\
 gk y u k.size 1 /\
 gk y u k.size 2 /\
 gk y u k.size 3 /\
 gk y u k.size 4 /\
 gk y u k.size 5 /\
 gk y u k.size 6 /\
 gk y u m.size 0 /\
 gk y u m.size 1 /\
 cV q26 [.agg #[vi c,vi d,vi e,vi f,Sl.v g,Sl.v h,Sl.v i]] y fun z A=>
 Sam [u.size,k.size,m.size] y A /\
 ∃ B:Int,∃ C:Int,∃ D:Int,∃ E:Int,∃ F:Sl,∃ G:Sl,∃ H:Sl,z=.agg #[vi B,vi C,vi D,vi E,Sl.v F,Sl.v G,Sl.v H] /\
 cV q3i [.agg #[Sl.v v,Sl.v x],.agg #[vi B,vi C,vi D,vi E,Sl.v F,Sl.v G,Sl.v H],vi j] A fun J K=>
 Sam [u.size,k.size,m.size] A K /\
 ∃ L:Int,∃ M:Int,∃ N:Int,∃ O:Int,∃ P:Sl,∃ Q:Sl,∃ S:Sl,∃ T:Bool,J=.tuple #[.agg #[vi L,vi M,vi N,vi O,Sl.v P,Sl.v Q,Sl.v S],vb T] /\
 eT u.size (let U:=scells K u.size 0 [.i L,.i M,.i N,.i O,.s P,.s Q,.s S]
 eS k.size 50 [.i c,.i d,.i e,.i f,.s g,.s h,.s i] (eS m.size 25 [.s a,.s b] (s (u.size,0) T U))))) /\
 (let t:=q.push (.cells (vals [.i 0,.i 0,.i 0,.i 0,.s Sl.nil,.s Sl.nil,.s Sl.nil]) 55)
 gk t q k.size 0 /\
 gk t q k.size 1 /\
 gk t q k.size 2 /\
 gk t q k.size 3 /\
 gk t q k.size 4 /\
 gk t q k.size 5 /\
 gk t q k.size 6 /\
 gk t q m.size 0 /\
 gk t q m.size 1 /\
 cV q2v [.agg #[Sl.v a,Sl.v b]] t fun u v=>
 Sam [q.size,k.size,m.size] t v /\
 ∃ x:Sl,∃ y:Sl,u=.agg #[Sl.v x,Sl.v y] /\
 gk v t k.size 0 /\
 gk v t k.size 1 /\
 gk v t k.size 2 /\
 gk v t k.size 3 /\
 gk v t k.size 4 /\
 gk v t k.size 5 /\
 gk v t k.size 6 /\
 cV q26 [.agg #[vi c,vi d,vi e,vi f,Sl.v g,Sl.v h,Sl.v i]] v fun z A=>
 Sam [q.size,k.size,m.size] v A /\
 ∃ B:Int,∃ C:Int,∃ D:Int,∃ E:Int,∃ F:Sl,∃ G:Sl,∃ H:Sl,z=.agg #[vi B,vi C,vi D,vi E,Sl.v F,Sl.v G,Sl.v H] /\
 cV q3i [.agg #[Sl.v x,Sl.v y],.agg #[vi B,vi C,vi D,vi E,Sl.v F,Sl.v G,Sl.v H],vi j] A fun J K=>
 Sam [q.size,k.size,m.size] A K /\
 ∃ L:Int,∃ M:Int,∃ N:Int,∃ O:Int,∃ P:Sl,∃ Q:Sl,∃ S:Sl,∃ T:Bool,J=.tuple #[.agg #[vi L,vi M,vi N,vi O,Sl.v P,Sl.v Q,Sl.v S],vb T] /\
 eT q.size (let U:=scells K q.size 0 [.i L,.i M,.i N,.i O,.s P,.s Q,.s S]
 eS k.size 50 [.i c,.i d,.i e,.i f,.s g,.s h,.s i] (eS m.size 25 [.s a,.s b] (s (q.size,0) T U))))))) /\
 (∀ t u v,s t u v ->
 eT m.size (cV q2v [.agg #[Sl.v a,Sl.v b]] v fun x y=>
 Sam [k.size,m.size] v y /\
 ∃ z:Sl,∃ A:Sl,x=.agg #[Sl.v z,Sl.v A] /\
 let B:=y.push (.cells (vals [.s Sl.nil,.s Sl.nil]) 35)
 eT y.size (let C:=scells B y.size 0 [.s z,.s A]
 eT k.size (cV q26 [.agg #[vi c,vi d,vi e,vi f,Sl.v g,Sl.v h,Sl.v i]] C fun D E=>
 Sam [y.size,k.size,m.size] C E /\
 ∃ F:Int,∃ G:Int,∃ H:Int,∃ J:Int,∃ K:Sl,∃ L:Sl,∃ M:Sl,D=.agg #[vi F,vi G,vi H,vi J,Sl.v K,Sl.v L,Sl.v M] /\
 let N:=E.push (.cells (vals [.i 0,.i 0,.i 0,.i 0,.s Sl.nil,.s Sl.nil,.s Sl.nil]) 55)
 eT E.size (let O:=scells N E.size 0 [.i F,.i G,.i H,.i J,.s K,.s L,.s M]
 eT y.size (eT E.size (cV q30 [.agg #[Sl.v z,Sl.v A],.agg #[vi F,vi G,vi H,vi J,Sl.v K,Sl.v L,Sl.v M],vi j] O fun P Q=>
 Sam [E.size,y.size,k.size,m.size] O Q /\
 ∃ S:Int,∃ T:Int,∃ U:Int,∃ V:Int,∃ W:Sl,∃ X:Sl,∃ Y:Sl,∃ Z:Bool,P=.tuple #[.agg #[vi S,vi T,vi U,vi V,Sl.v W,Sl.v X,Sl.v Y],vb Z] /\
 let aa:=Q.push (.cells (vals [.i 0,.i 0,.i 0,.i 0,.s Sl.nil,.s Sl.nil,.s Sl.nil]) 55)
 eT Q.size (let ab:=scells aa Q.size 0 [.i S,.i T,.i U,.i V,.s W,.s X,.s Y]
 eT Q.size (rI ab t.1 t.2 fun ac=>
 rI ab t.1 (t.2+1) fun ad=>
 rI ab t.1 (t.2+2) fun ae=>
 rI ab t.1 (t.2+3) fun af=>
 rS ab t.1 (t.2+4) fun ag=>
 rS ab t.1 (t.2+5) fun ah=>
 rS ab t.1 (t.2+6) fun ai=>
 cB q4k [.agg #[vi S,vi T,vi U,vi V,Sl.v W,Sl.v X,Sl.v Y],.agg #[vi ac,vi ad,vi ae,vi af,Sl.v ag,Sl.v ah,Sl.v ai]] [Q.size,E.size,y.size,k.size,m.size] ab fun aj ak=>
 iP (!aj) (R (vb false) ak) (iP (!(Z == u)) (R (vb false) ak) (eT y.size (eT m.size (cV q2v [.agg #[Sl.v a,Sl.v b]] ak fun al am=>
 Sam [Q.size,E.size,y.size,k.size,m.size] ak am /\
 ∃ an:Sl,∃ ao:Sl,al=.agg #[Sl.v an,Sl.v ao] /\
 gk am ak y.size 0 /\
 gk am ak y.size 1 /\
 cB qat [.agg #[Sl.v z,Sl.v A],.agg #[Sl.v an,Sl.v ao]] [Q.size,E.size,y.size,k.size,m.size] am fun ap aq=>
 iP (!ap) (R (vb false) aq) (eT E.size (eT k.size (cV q26 [.agg #[vi c,vi d,vi e,vi f,Sl.v g,Sl.v h,Sl.v i]] aq fun ar au=>
 Sam [Q.size,E.size,y.size,k.size,m.size] aq au /\
 ∃ av:Int,∃ aw:Int,∃ ax:Int,∃ ay:Int,∃ az:Sl,∃ a0:Sl,∃ a1:Sl,ar=.agg #[vi av,vi aw,vi ax,vi ay,Sl.v az,Sl.v a0,Sl.v a1] /\
 gk au aq E.size 0 /\
 gk au aq E.size 1 /\
 gk au aq E.size 2 /\
 gk au aq E.size 3 /\
 gk au aq E.size 4 /\
 gk au aq E.size 5 /\
 gk au aq E.size 6 /\
 cB q4k [.agg #[vi F,vi G,vi H,vi J,Sl.v K,Sl.v L,Sl.v M],.agg #[vi av,vi aw,vi ax,vi ay,Sl.v az,Sl.v a0,Sl.v a1]] [Q.size,E.size,y.size,k.size,m.size] au fun a2 a3=>
 iP (!a2) (R (vb false) a3) (eT y.size (cI q86 [.agg #[Sl.v z,Sl.v A],vi 1] [Q.size,E.size,y.size,k.size,m.size] a3 fun a4 a5=>
 eT E.size (cI q5t [.agg #[vi F,vi G,vi H,vi J,Sl.v K,Sl.v L,Sl.v M],vi a4] [Q.size,E.size,y.size,k.size,m.size] a5 fun a6 a7=>
 iP (decide (a6 < 0)) (R (vb false) a7) (eT Q.size (rI a7 t.1 t.2 fun a8=>
 rI a7 t.1 (t.2+1) fun a9=>
 rI a7 t.1 (t.2+2) fun ba=>
 rI a7 t.1 (t.2+3) fun bb=>
 rS a7 t.1 (t.2+4) fun bc=>
 rS a7 t.1 (t.2+5) fun bd=>
 rS a7 t.1 (t.2+6) fun be=>
 cB q4k [.agg #[vi S,vi T,vi U,vi V,Sl.v W,Sl.v X,Sl.v Y],.agg #[vi a8,vi a9,vi ba,vi bb,Sl.v bc,Sl.v bd,Sl.v be]] [Q.size,E.size,y.size,k.size,m.size] a7 fun bf bg=>
 iP (!bf) (R (vb false) bg) (iP (!(Z == u)) (R (vb false) bg) (eT Q.size (cI q5t [.agg #[vi S,vi T,vi U,vi V,Sl.v W,Sl.v X,Sl.v Y],vi 1] [Q.size,E.size,y.size,k.size,m.size] bg fun bh bi=>
 eT Q.size (cI q5p [.agg #[vi S,vi T,vi U,vi V,Sl.v W,Sl.v X,Sl.v Y],vi 1] [Q.size,E.size,y.size,k.size,m.size] bi fun bj bk=>
 iP (decide (bj < 0)) (R (vb false) bk) (iP (bj != bh) (R (vb false) bk) (∃ bl:(Nat × Nat)->Bool->Mem->Prop,
 (eT m.size (eT k.size ((cV q2v [.agg #[Sl.v a,Sl.v b]] bk fun bm bn=>
 Sam [Q.size,E.size,y.size,k.size,m.size] bk bn /\
 ∃ bo:Sl,∃ bq:Sl,bm=.agg #[Sl.v bo,Sl.v bq] /\
 gk bn bk k.size 0 /\
 gk bn bk k.size 1 /\
 gk bn bk k.size 2 /\
 gk bn bk k.size 3 /\
 gk bn bk k.size 4 /\
 gk bn bk k.size 5 /\
 gk bn bk k.size 6 /\
 (cV q26 [.agg #[vi c,vi d,vi e,vi f,Sl.v g,Sl.v h,Sl.v i]] bn fun br bs=>
 Sam [Q.size,E.size,y.size,k.size,m.size] bn bs /\
 ∃ bt:Int,∃ bu:Int,∃ bv:Int,∃ bw:Int,∃ bx:Sl,∃ bz:Sl,∃ b0:Sl,br=.agg #[vi bt,vi bu,vi bv,vi bw,Sl.v bx,Sl.v bz,Sl.v b0] /\
 (cV q30 [.agg #[Sl.v bo,Sl.v bq],.agg #[vi bt,vi bu,vi bv,vi bw,Sl.v bx,Sl.v bz,Sl.v b0],vi j] bs fun b1 b2=>
 Sam [Q.size,E.size,y.size,k.size,m.size] bs b2 /\
 ∃ b3:Int,∃ b4:Int,∃ b5:Int,∃ b6:Int,∃ b7:Sl,∃ b8:Sl,∃ b9:Sl,∃ ca:Bool,b1=.tuple #[.agg #[vi b3,vi b4,vi b5,vi b6,Sl.v b7,Sl.v b8,Sl.v b9],vb ca] /\
 let cb:=b2.push (.cells (vals [.i 0,.i 0,.i 0,.i 0,.s Sl.nil,.s Sl.nil,.s Sl.nil]) 55)
 gk cb b2 k.size 0 /\
 gk cb b2 k.size 1 /\
 gk cb b2 k.size 2 /\
 gk cb b2 k.size 3 /\
 gk cb b2 k.size 4 /\
 gk cb b2 k.size 5 /\
 gk cb b2 k.size 6 /\
 gk cb b2 m.size 0 /\
 gk cb b2 m.size 1 /\
 eT b2.size (let cc:=scells cb b2.size 0 [.i b3,.i b4,.i b5,.i b6,.s b7,.s b8,.s b9]
 eS Q.size 55 [.i S,.i T,.i U,.i V,.s W,.s X,.s Y] (eS E.size 55 [.i F,.i G,.i H,.i J,.s K,.s L,.s M] (eS y.size 35 [.s z,.s A] (eS k.size 50 [.i c,.i d,.i e,.i f,.s g,.s h,.s i] (eS m.size 25 [.s a,.s b] (bl (b2.size,0) ca cc))))))) /\
 (let b1:=bs.push (.cells (vals [.i 0,.i 0,.i 0,.i 0,.s Sl.nil,.s Sl.nil,.s Sl.nil]) 55)
 gk b1 bs k.size 0 /\
 gk b1 bs k.size 1 /\
 gk b1 bs k.size 2 /\
 gk b1 bs k.size 3 /\
 gk b1 bs k.size 4 /\
 gk b1 bs k.size 5 /\
 gk b1 bs k.size 6 /\
 gk b1 bs m.size 0 /\
 gk b1 bs m.size 1 /\
 cV q30 [.agg #[Sl.v bo,Sl.v bq],.agg #[vi bt,vi bu,vi bv,vi bw,Sl.v bx,Sl.v bz,Sl.v b0],vi j] b1 fun b2 b3=>
 Sam [bs.size,Q.size,E.size,y.size,k.size,m.size] b1 b3 /\
 ∃ b4:Int,∃ b5:Int,∃ b6:Int,∃ b7:Int,∃ b8:Sl,∃ b9:Sl,∃ ca:Sl,∃ cb:Bool,b2=.tuple #[.agg #[vi b4,vi b5,vi b6,vi b7,Sl.v b8,Sl.v b9,Sl.v ca],vb cb] /\
 eT bs.size (let cc:=scells b3 bs.size 0 [.i b4,.i b5,.i b6,.i b7,.s b8,.s b9,.s ca]
 eS Q.size 55 [.i S,.i T,.i U,.i V,.s W,.s X,.s Y] (eS E.size 55 [.i F,.i G,.i H,.i J,.s K,.s L,.s M] (eS y.size 35 [.s z,.s A] (eS k.size 50 [.i c,.i d,.i e,.i f,.s g,.s h,.s i] (eS m.size 25 [.s a,.s b] (bl (bs.size,0) cb cc)))))))) /\
 (let br:=bn.push (.cells (vals [.i 0,.i 0,.i 0,.i 0,.s Sl.nil,.s Sl.nil,.s Sl.nil]) 55)
 gk br bn k.size 0 /\
 gk br bn k.size 1 /\
 gk br bn k.size 2 /\
 gk br bn k.size 3 /\
 gk br bn k.size 4 /\
 gk br bn k.size 5 /\
 gk br bn k.size 6 /\
 gk br bn m.size 0 /\
 gk br bn m.size 1 /\
 cV q26 [.agg #[vi c,vi d,vi e,vi f,Sl.v g,Sl.v h,Sl.v i]] br fun bs bt=>
 Sam [bn.size,Q.size,E.size,y.size,k.size,m.size] br bt /\
 ∃ bu:Int,∃ bv:Int,∃ bw:Int,∃ bx:Int,∃ bz:Sl,∃ b0:Sl,∃ b1:Sl,bs=.agg #[vi bu,vi bv,vi bw,vi bx,Sl.v bz,Sl.v b0,Sl.v b1] /\
 cV q30 [.agg #[Sl.v bo,Sl.v bq],.agg #[vi bu,vi bv,vi bw,vi bx,Sl.v bz,Sl.v b0,Sl.v b1],vi j] bt fun b2 b3=>
 Sam [bn.size,Q.size,E.size,y.size,k.size,m.size] bt b3 /\
 ∃ b4:Int,∃ b5:Int,∃ b6:Int,∃ b7:Int,∃ b8:Sl,∃ b9:Sl,∃ ca:Sl,∃ cb:Bool,b2=.tuple #[.agg #[vi b4,vi b5,vi b6,vi b7,Sl.v b8,Sl.v b9,Sl.v ca],vb cb] /\
 eT bn.size (let cc:=scells b3 bn.size 0 [.i b4,.i b5,.i b6,.i b7,.s b8,.s b9,.s ca]
 eS Q.size 55 [.i S,.i T,.i U,.i V,.s W,.s X,.s Y] (eS E.size 55 [.i F,.i G,.i H,.i J,.s K,.s L,.s M] (eS y.size 35 [.s z,.s A] (eS k.size 50 [.i c,.i d,.i e,.i f,.s g,.s h,.s i] (eS m.size 25 [.s a,.s b] (bl (bn.size,0) cb cc)))))))) /\
 (let bm:=bk.push (.cells (vals [.i 0,.i 0,.i 0,.i 0,.s Sl.nil,.s Sl.nil,.s Sl.nil]) 55)
 gk bm bk k.size 0 /\
 gk bm bk k.size 1 /\
 gk bm bk k.size 2 /\
 gk bm bk k.size 3 /\
 gk bm bk k.size 4 /\
 gk bm bk k.size 5 /\
 gk bm bk k.size 6 /\
 gk bm bk m.size 0 /\
 gk bm bk m.size 1 /\
 cV q2v [.agg #[Sl.v a,Sl.v b]] bm fun bn bo=>
 Sam [bk.size,Q.size,E.size,y.size,k.size,m.size] bm bo /\
 ∃ bq:Sl,∃ br:Sl,bn=.agg #[Sl.v bq,Sl.v br] /\
 gk bo bm k.size 0 /\
 gk bo bm k.size 1 /\
 gk bo bm k.size 2 /\
 gk bo bm k.size 3 /\
 gk bo bm k.size 4 /\
 gk bo bm k.size 5 /\
 gk bo bm k.size 6 /\
 cV q26 [.agg #[vi c,vi d,vi e,vi f,Sl.v g,Sl.v h,Sl.v i]] bo fun bs bt=>
 Sam [bk.size,Q.size,E.size,y.size,k.size,m.size] bo bt /\
 ∃ bu:Int,∃ bv:Int,∃ bw:Int,∃ bx:Int,∃ bz:Sl,∃ b0:Sl,∃ b1:Sl,bs=.agg #[vi bu,vi bv,vi bw,vi bx,Sl.v bz,Sl.v b0,Sl.v b1] /\
 cV q30 [.agg #[Sl.v bq,Sl.v br],.agg #[vi bu,vi bv,vi bw,vi bx,Sl.v bz,Sl.v b0,Sl.v b1],vi j] bt fun b2 b3=>
 Sam [bk.size,Q.size,E.size,y.size,k.size,m.size] bt b3 /\
 ∃ b4:Int,∃ b5:Int,∃ b6:Int,∃ b7:Int,∃ b8:Sl,∃ b9:Sl,∃ ca:Sl,∃ cb:Bool,b2=.tuple #[.agg #[vi b4,vi b5,vi b6,vi b7,Sl.v b8,Sl.v b9,Sl.v ca],vb cb] /\
 eT bk.size (let cc:=scells b3 bk.size 0 [.i b4,.i b5,.i b6,.i b7,.s b8,.s b9,.s ca]
 eS Q.size 55 [.i S,.i T,.i U,.i V,.s W,.s X,.s Y] (eS E.size 55 [.i F,.i G,.i H,.i J,.s K,.s L,.s M] (eS y.size 35 [.s z,.s A] (eS k.size 50 [.i c,.i d,.i e,.i f,.s g,.s h,.s i] (eS m.size 25 [.s a,.s b] (bl (bk.size,0) cb cc)))))))))) /\
 (∀ bm bn bo,bl bm bn bo ->
 rI bo bm.1 bm.2 fun bq=>
 rI bo bm.1 (bm.2+1) fun br=>
 rI bo bm.1 (bm.2+2) fun bs=>
 rI bo bm.1 (bm.2+3) fun bt=>
 rS bo bm.1 (bm.2+4) fun bu=>
 rS bo bm.1 (bm.2+5) fun bv=>
 rS bo bm.1 (bm.2+6) fun bw=>
 rI bo t.1 t.2 fun bx=>
 rI bo t.1 (t.2+1) fun bz=>
 rI bo t.1 (t.2+2) fun b0=>
 rI bo t.1 (t.2+3) fun b1=>
 rS bo t.1 (t.2+4) fun b2=>
 rS bo t.1 (t.2+5) fun b3=>
 rS bo t.1 (t.2+6) fun b4=>
 cB q4k [.agg #[vi bq,vi br,vi bs,vi bt,Sl.v bu,Sl.v bv,Sl.v bw],.agg #[vi bx,vi bz,vi b0,vi b1,Sl.v b2,Sl.v b3,Sl.v b4]] [Q.size,E.size,y.size,k.size,m.size] bo fun b5 b6=>
 iP (!b5) (R (vb false) b6) (iP (!(bn == u)) (R (vb false) b6) (eT Q.size (cI q5p [.agg #[vi S,vi T,vi U,vi V,Sl.v W,Sl.v X,Sl.v Y],vi 1] [Q.size,E.size,y.size,k.size,m.size] b6 fun b7 b8=>
 iP (decide (b7 < 0)) (R (vb false) b8) (iP (b7 != bh) (R (vb false) b8) (R (vb true) b8)))))))))))))))))))))))))))))))))))))):cV q7q [.agg #[Sl.v a,Sl.v b],.agg #[vi c,vi d,vi e,vi f,Sl.v g,Sl.v h,Sl.v i],vi j] m R:=vcs (dl:=[8,14,16,31]) (A1:=[]) (A2:=[(9,[(8,.P),(9,.T)]),(32,[(17,.P),(18,.T)])]) (A3:=[(9,[128,127]),(32,[136,135,134,128,127])]) (args:=[.agg [.s a,.s b],.agg [.i c,.i d,.i e,.i f,.s g,.s h,.s i],.c (.i j)]) Tryz.func6 h'

theorem qiq (a b:Sl) (c:Int) (h' :
 let d:=m.push (.cells (vals [.s a,.s b]) 25)
 eT m.size (cI qah [Sl.v a,vi c] [m.size] d fun e f=>
 iP (decide (e < 0)) (R (vi (-1)) f) (eT m.size (cI qav [Sl.v b,vi e] [m.size] f fun g h=>
 iP (decide (g < 0)) (R (vi (-1)) h) (R (vi g) h))))):cV qaz [.agg #[Sl.v a,Sl.v b],vi c] m R:=vcs (dl:=[]) (A1:=[]) (A2:=[]) (A3:=[]) (args:=[.agg [.s a,.s b],.c (.i c)]) Tryz.func7 h'

theorem qj6 (a b:Sl) (h' :
 let c:=m.push (.cells (vals [.s a,.s b]) 25)
 let d:=c.push (.cells (vals [.s Sl.nil,.s Sl.nil]) 35)
 let e:=d.push (.cells (vals [.s Sl.nil,.s Sl.nil]) 35)
 eT m.size (cS qan [Sl.v a] [d.size,c.size,m.size] e fun f g=>
 eT d.size (let h:=scells g d.size 0 [.s f]
 eT m.size (cS qa0 [Sl.v b] [d.size,c.size,m.size] h fun i j=>
 eT d.size (let k:=scells j d.size 1 [.s i]
 eT d.size (eT c.size (let l:=scells k c.size 0 [.s f,.s i]
 eT c.size (R (.agg #[Sl.v f,Sl.v i]) l)))))))):cV q2v [.agg #[Sl.v a,Sl.v b]] m R:=vcs (dl:=[]) (A1:=[]) (A2:=[]) (A3:=[]) (args:=[.agg [.s a,.s b]]) Tryz.func9 h'

end
section
set_option linter.unusedVariables false
set_option maxRecDepth 100000
variable {m:Mem} {R:Value->Mem->Prop}
theorem qjg (a b c d:Sl) (h' :
 let e:=m.push (.cells (vals [.s a,.s b]) 35)
 let f:=e.push (.cells (vals [.s c,.s d]) 35)
 eT m.size (eT e.size (cB qag [Sl.v a,Sl.v c] [e.size,m.size] f fun g h=>
 iP (!g) (R (vb false) h) (eT m.size (eT e.size (cB qa5 [Sl.v b,Sl.v d] [e.size,m.size] h fun i j=>
 iP (!i) (R (vb false) j) (R (vb true) j))))))):cV qat [.agg #[Sl.v a,Sl.v b],.agg #[Sl.v c,Sl.v d]] m R:=vcs (dl:=[]) (A1:=[]) (A2:=[]) (A3:=[]) (args:=[.agg [.s a,.s b],.agg [.s c,.s d]]) Tryz.func12 h'

theorem qga (a b:Sl) (c:Int) (h' :
 let d:=m.push (.cells (vals [.s a,.s b]) 35)
 eT m.size (cI q87 [Sl.v a,vi c] [m.size] d fun e f=>
 eT m.size (cI q8p [Sl.v b,vi e] [m.size] f fun g h=>
 R (vi g) h))):cV q86 [.agg #[Sl.v a,Sl.v b],vi c] m R:=vcs (dl:=[]) (A1:=[]) (A2:=[]) (A3:=[]) (args:=[.agg [.s a,.s b],.c (.i c)]) Tryz.func13 h'

end
section
set_option linter.unusedVariables false
set_option maxRecDepth 100000
variable {m:Mem} {R:Value->Mem->Prop}
end
section
set_option linter.unusedVariables false
set_option maxRecDepth 100000
variable {m:Mem} {R:Value->Mem->Prop}
theorem qjd (a b c d:Int) (e f g:Sl) (h:Int) (h' :
 let i:=m.push (.cells (vals [.i a,.i b,.i c,.i d,.s e,.s f,.s g]) 50)
 eT m.size (cI q25 [Sl.v e,vi h] [m.size] i fun j k=>
 iP (decide (j < 0)) (R (vi (-1)) k) (eT m.size (cI qae [Sl.v f,vi j] [m.size] k fun l n=>
 iP (decide (l < 0)) (R (vi (-1)) n) (eT m.size (cI q9d [Sl.v g,vi l] [m.size] n fun o p=>
 iP (decide (o < 0)) (R (vi (-1)) p) (R (vi o) p))))))):cV qar [.agg #[vi a,vi b,vi c,vi d,Sl.v e,Sl.v f,Sl.v g],vi h] m R:=vcs (dl:=[]) (A1:=[]) (A2:=[]) (A3:=[]) (args:=[.agg [.i a,.i b,.i c,.i d,.s e,.s f,.s g],.c (.i h)]) Tryz.func19 h'

theorem qk5 (a b c d:Int) (e f g:Sl) (h' :
 let h:=m.push (.cells (vals [.i a,.i b,.i c,.i d,.s e,.s f,.s g]) 50)
 let i:=h.push (.cells (vals [.i 0,.i 0,.i 0,.i 0,.s Sl.nil,.s Sl.nil,.s Sl.nil]) 55)
 let j:=i.push (.cells (vals [.i 0,.i 0,.i 0,.i 0,.s Sl.nil,.s Sl.nil,.s Sl.nil]) 55)
 eT m.size (eT i.size (let k:=scells j i.size 0 [.i a]
 eT m.size (eT i.size (let l:=scells k i.size 1 [.i b]
 eT m.size (eT i.size (let n:=scells l i.size 2 [.i c]
 eT m.size (eT i.size (let o:=scells n i.size 3 [.i d]
 eT m.size (cS q23 [Sl.v e] [i.size,h.size,m.size] o fun p q=>
 eT i.size (let s:=scells q i.size 4 [.s p]
 eT m.size (cS qaw [Sl.v f] [i.size,h.size,m.size] s fun t u=>
 eT i.size (let v:=scells u i.size 5 [.s t]
 eT m.size (cS q93 [Sl.v g] [i.size,h.size,m.size] v fun x y=>
 eT i.size (let z:=scells y i.size 6 [.s x]
 eT i.size (eT h.size (let A:=scells z h.size 0 [.i a,.i b,.i c,.i d,.s p,.s t,.s x]
 eT h.size (R (.agg #[vi a,vi b,vi c,vi d,Sl.v p,Sl.v t,Sl.v x]) A)))))))))))))))))):cV q26 [.agg #[vi a,vi b,vi c,vi d,Sl.v e,Sl.v f,Sl.v g]] m R:=vcs (dl:=[]) (A1:=[]) (A2:=[]) (A3:=[]) (args:=[.agg [.i a,.i b,.i c,.i d,.s e,.s f,.s g]]) Tryz.func21 h'

theorem qk0 (a b c d:Int) (e f g:Sl) (h i j k:Int) (l n o:Sl) (h' :
 let p:=m.push (.cells (vals [.i a,.i b,.i c,.i d,.s e,.s f,.s g]) 55)
 let q:=p.push (.cells (vals [.i h,.i i,.i j,.i k,.s l,.s n,.s o]) 55)
 eT m.size (eT p.size (iP (a != h) (R (vb false) q) (eT m.size (eT p.size (iP (b != i) (R (vb false) q) (eT m.size (eT p.size (iP (c != j) (R (vb false) q) (eT m.size (eT p.size (iP (d != k) (R (vb false) q) (eT m.size (eT p.size (cB q22 [Sl.v e,Sl.v l] [p.size,m.size] q fun s t=>
 iP (!s) (R (vb false) t) (eT m.size (eT p.size (cB qa6 [Sl.v f,Sl.v n] [p.size,m.size] t fun u v=>
 iP (!u) (R (vb false) v) (eT m.size (eT p.size (cB q9b [Sl.v g,Sl.v o] [p.size,m.size] v fun x y=>
 iP (!x) (R (vb false) y) (R (vb true) y)))))))))))))))))))))):cV q4k [.agg #[vi a,vi b,vi c,vi d,Sl.v e,Sl.v f,Sl.v g],.agg #[vi h,vi i,vi j,vi k,Sl.v l,Sl.v n,Sl.v o]] m R:=vcs (dl:=[]) (A1:=[]) (A2:=[]) (A3:=[]) (args:=[.agg [.i a,.i b,.i c,.i d,.s e,.s f,.s g],.agg [.i h,.i i,.i j,.i k,.s l,.s n,.s o]]) Tryz.func23 h'

theorem qg2 (a b c d:Int) (e f g:Sl) (h:Int) (h' :
 let i:=m.push (.cells (vals [.i a,.i b,.i c,.i d,.s e,.s f,.s g]) 55)
 eT m.size (cI q1t [Sl.v e,vi h] [m.size] i fun j k=>
 eT m.size (cI q83 [Sl.v f,vi j] [m.size] k fun l n=>
 eT m.size (cI q7k [Sl.v g,vi l] [m.size] n fun o p=>
 R (vi o) p)))):cV q5t [.agg #[vi a,vi b,vi c,vi d,Sl.v e,Sl.v f,Sl.v g],vi h] m R:=vcs (dl:=[]) (A1:=[]) (A2:=[]) (A3:=[]) (args:=[.agg [.i a,.i b,.i c,.i d,.s e,.s f,.s g],.c (.i h)]) Tryz.func24 h'

theorem qgd (a b c d:Int) (e f g:Sl) (h:Int) (h' :
 let i:=m.push (.cells (vals [.i a,.i b,.i c,.i d,.s e,.s f,.s g]) 55)
 eT m.size (cI q3g [Sl.v e,vi h] [m.size] i fun j k=>
 iP (decide (j < 0)) (R (vi (-1)) k) (eT m.size (cI q84 [Sl.v f,vi j] [m.size] k fun l n=>
 iP (decide (l < 0)) (R (vi (-1)) n) (eT m.size (cI q7d [Sl.v g,vi l] [m.size] n fun o p=>
 iP (decide (o < 0)) (R (vi (-1)) p) (R (vi o) p))))))):cV q5p [.agg #[vi a,vi b,vi c,vi d,Sl.v e,Sl.v f,Sl.v g],vi h] m R:=vcs (dl:=[]) (A1:=[]) (A2:=[]) (A3:=[]) (args:=[.agg [.i a,.i b,.i c,.i d,.s e,.s f,.s g],.c (.i h)]) Tryz.func25 h'

theorem qi7 (a b:Sl) (c d e f:Int) (g h i:Sl) (j:Int) (h' :
 let k:=m.push (.cells (vals [.s a,.s b]) 35)
 let l:=k.push (.cells (vals [.i c,.i d,.i e,.i f,.s g,.s h,.s i]) 55)
 let n:=l.push (.cells (vals [.i 0,.i 0,.i 0,.i 0,.s Sl.nil,.s Sl.nil,.s Sl.nil]) 55)
 eT m.size (eT k.size (cB q78 [.agg #[Sl.v a,Sl.v b],.agg #[vi c,vi d,vi e,vi f,Sl.v g,Sl.v h,Sl.v i]] [l.size,k.size,m.size] n fun o p=>
 iP (!o) (eT l.size (let q:=scells p l.size 0 [.i 0,.i 0,.i 0,.i 0,.s Sl.nil,.s Sl.nil,.s Sl.nil]
 eT l.size (R (.tuple #[.agg #[vi 0,vi 0,vi 0,vi 0,Sl.v Sl.nil,Sl.v Sl.nil,Sl.v Sl.nil],vb false]) q))) (cB q0d [vi j,vi 0,vi 100000] [l.size,k.size,m.size] p fun q s=>
 iP (!q) (eT l.size (let t:=scells s l.size 0 [.i 0,.i 0,.i 0,.i 0,.s Sl.nil,.s Sl.nil,.s Sl.nil]
 eT l.size (R (.tuple #[.agg #[vi 0,vi 0,vi 0,vi 0,Sl.v Sl.nil,Sl.v Sl.nil,Sl.v Sl.nil],vb false]) t))) (eT m.size (eT k.size (cV q5n [.agg #[vi c,vi d,vi e,vi f,Sl.v g,Sl.v h,Sl.v i]] s fun t u=>
 Sam [l.size,k.size,m.size] s u /\
 ∃ v:Int,∃ x:Int,∃ y:Int,∃ z:Int,∃ A:Sl,∃ B:Sl,∃ C:Sl,t=.agg #[vi v,vi x,vi y,vi z,Sl.v A,Sl.v B,Sl.v C] /\
 gk u s m.size 0 /\
 gk u s m.size 1 /\
 let D:=u.push (.cells (vals [.s a,.s b,.i v,.i x,.i y,.i z,.s A,.s B,.s C]) 97)
 cI q6t [vp u.size 0,vi j] [l.size,k.size,m.size] D fun E F=>
 rI F u.size 2 fun G=>
 rI F u.size 3 fun H=>
 rI F u.size 4 fun J=>
 rI F u.size 5 fun K=>
 rS F u.size 6 fun L=>
 rS F u.size 7 fun M=>
 rS F u.size 8 fun N=>
 cV q5n [.agg #[vi G,vi H,vi J,vi K,Sl.v L,Sl.v M,Sl.v N]] F fun O P=>
 Sam [l.size,k.size,m.size] F P /\
 ∃ Q:Int,∃ S:Int,∃ T:Int,∃ U:Int,∃ V:Sl,∃ W:Sl,∃ X:Sl,O=.agg #[vi Q,vi S,vi T,vi U,Sl.v V,Sl.v W,Sl.v X] /\
 eT l.size (let Y:=scells P l.size 0 [.i Q,.i S,.i T,.i U,.s V,.s W,.s X]
 eT l.size (R (.tuple #[.agg #[vi Q,vi S,vi T,vi U,Sl.v V,Sl.v W,Sl.v X],vb true]) Y))))))))):cV q3i [.agg #[Sl.v a,Sl.v b],.agg #[vi c,vi d,vi e,vi f,Sl.v g,Sl.v h,Sl.v i],vi j] m R:=vcs (dl:=[3]) (A1:=[]) (A2:=[]) (A3:=[]) (args:=[.agg [.s a,.s b],.agg [.i c,.i d,.i e,.i f,.s g,.s h,.s i],.c (.i j)]) Tryz.func26 h'

end
section
set_option linter.unusedVariables false
set_option maxRecDepth 100000
variable {m:Mem} {R:Value->Mem->Prop}
theorem qi1 (a b:Sl) (c d e f:Int) (g h i:Sl) (j:Int) (h' :
 let k:=m.push (.cells (vals [.s a,.s b]) 35)
 let l:=k.push (.cells (vals [.i c,.i d,.i e,.i f,.s g,.s h,.s i]) 55)
 let n:=l.push (.cells (vals [.i 0,.i 0,.i 0,.i 0,.s Sl.nil,.s Sl.nil,.s Sl.nil]) 55)
 eT m.size (eT k.size (cB q7o [.agg #[Sl.v a,Sl.v b],.agg #[vi c,vi d,vi e,vi f,Sl.v g,Sl.v h,Sl.v i]] [l.size,k.size,m.size] n fun o p=>
 iP (!o) (eT l.size (let q:=scells p l.size 0 [.i 0,.i 0,.i 0,.i 0,.s Sl.nil,.s Sl.nil,.s Sl.nil]
 eT l.size (R (.tuple #[.agg #[vi 0,vi 0,vi 0,vi 0,Sl.v Sl.nil,Sl.v Sl.nil,Sl.v Sl.nil],vb false]) q))) (iP (decide (j < 0)) (eT l.size (let q:=scells p l.size 0 [.i 0,.i 0,.i 0,.i 0,.s Sl.nil,.s Sl.nil,.s Sl.nil]
 eT l.size (R (.tuple #[.agg #[vi 0,vi 0,vi 0,vi 0,Sl.v Sl.nil,Sl.v Sl.nil,Sl.v Sl.nil],vb false]) q))) (iP (decide (j > 100000)) (eT l.size (let q:=scells p l.size 0 [.i 0,.i 0,.i 0,.i 0,.s Sl.nil,.s Sl.nil,.s Sl.nil]
 eT l.size (R (.tuple #[.agg #[vi 0,vi 0,vi 0,vi 0,Sl.v Sl.nil,Sl.v Sl.nil,Sl.v Sl.nil],vb false]) q))) (∃ q:(Nat × Nat)->Mem->Prop,
 (eT m.size (eT m.size (eT k.size ((cI q3j [Sl.v a] [l.size,k.size,m.size] p fun s t=>
 gk t p k.size 0 /\
 gk t p k.size 1 /\
 gk t p k.size 2 /\
 gk t p k.size 3 /\
 gk t p k.size 4 /\
 gk t p k.size 5 /\
 gk t p k.size 6 /\
 gk t p m.size 0 /\
 gk t p m.size 1 /\
 (cV q3m [.agg #[vi c,vi d,vi e,vi f,Sl.v g,Sl.v h,Sl.v i]] t fun u v=>
 Sam [l.size,k.size,m.size] t v /\
 ∃ x:Int,∃ y:Int,∃ z:Int,∃ A:Int,∃ B:Sl,∃ C:Sl,∃ D:Sl,u=.agg #[vi x,vi y,vi z,vi A,Sl.v B,Sl.v C,Sl.v D] /\
 gk v t m.size 0 /\
 gk v t m.size 1 /\
 let E:=v.push (.cells (vals [.s Sl.nil,.s Sl.nil,.i 0,.i 0,.i 0,.i 0,.i 0,.s Sl.nil,.s Sl.nil,.s Sl.nil]) 74)
 gk E v k.size 0 /\
 gk E v k.size 1 /\
 gk E v k.size 2 /\
 gk E v k.size 3 /\
 gk E v k.size 4 /\
 gk E v k.size 5 /\
 gk E v k.size 6 /\
 gk E v m.size 0 /\
 gk E v m.size 0 /\
 gk E v m.size 1 /\
 eT v.size (let F:=scells E v.size 0 [.s a,.s b,.i s,.i x,.i y,.i z,.i A,.s B,.s C,.s D]
 eS l.size 55 [.i 0,.i 0,.i 0,.i 0,.s Sl.nil,.s Sl.nil,.s Sl.nil] (eS k.size 55 [.i c,.i d,.i e,.i f,.s g,.s h,.s i] (eS m.size 35 [.s a,.s b] (q (v.size,0) F))))) /\
 (let u:=t.push (.cells (vals [.s Sl.nil,.s Sl.nil,.i 0,.i 0,.i 0,.i 0,.i 0,.s Sl.nil,.s Sl.nil,.s Sl.nil]) 74)
 gk u t k.size 0 /\
 gk u t k.size 1 /\
 gk u t k.size 2 /\
 gk u t k.size 3 /\
 gk u t k.size 4 /\
 gk u t k.size 5 /\
 gk u t k.size 6 /\
 gk u t m.size 0 /\
 gk u t m.size 0 /\
 gk u t m.size 1 /\
 cV q3m [.agg #[vi c,vi d,vi e,vi f,Sl.v g,Sl.v h,Sl.v i]] u fun v x=>
 Sam [t.size,l.size,k.size,m.size] u x /\
 ∃ y:Int,∃ z:Int,∃ A:Int,∃ B:Int,∃ C:Sl,∃ D:Sl,∃ E:Sl,v=.agg #[vi y,vi z,vi A,vi B,Sl.v C,Sl.v D,Sl.v E] /\
 gk x u m.size 0 /\
 gk x u m.size 1 /\
 eT t.size (let F:=scells x t.size 0 [.s a,.s b,.i s,.i y,.i z,.i A,.i B,.s C,.s D,.s E]
 eS l.size 55 [.i 0,.i 0,.i 0,.i 0,.s Sl.nil,.s Sl.nil,.s Sl.nil] (eS k.size 55 [.i c,.i d,.i e,.i f,.s g,.s h,.s i] (eS m.size 35 [.s a,.s b] (q (t.size,0) F)))))) /\
 (let s:=p.push (.cells (vals [.s Sl.nil,.s Sl.nil,.i 0,.i 0,.i 0,.i 0,.i 0,.s Sl.nil,.s Sl.nil,.s Sl.nil]) 74)
 gk s p k.size 0 /\
 gk s p k.size 1 /\
 gk s p k.size 2 /\
 gk s p k.size 3 /\
 gk s p k.size 4 /\
 gk s p k.size 5 /\
 gk s p k.size 6 /\
 gk s p m.size 0 /\
 gk s p m.size 0 /\
 gk s p m.size 1 /\
 cI q3j [Sl.v a] [p.size,l.size,k.size,m.size] s fun t u=>
 gk u s k.size 0 /\
 gk u s k.size 1 /\
 gk u s k.size 2 /\
 gk u s k.size 3 /\
 gk u s k.size 4 /\
 gk u s k.size 5 /\
 gk u s k.size 6 /\
 gk u s m.size 0 /\
 gk u s m.size 1 /\
 cV q3m [.agg #[vi c,vi d,vi e,vi f,Sl.v g,Sl.v h,Sl.v i]] u fun v x=>
 Sam [p.size,l.size,k.size,m.size] u x /\
 ∃ y:Int,∃ z:Int,∃ A:Int,∃ B:Int,∃ C:Sl,∃ D:Sl,∃ E:Sl,v=.agg #[vi y,vi z,vi A,vi B,Sl.v C,Sl.v D,Sl.v E] /\
 gk x u m.size 0 /\
 gk x u m.size 1 /\
 eT p.size (let F:=scells x p.size 0 [.s a,.s b,.i t,.i y,.i z,.i A,.i B,.s C,.s D,.s E]
 eS l.size 55 [.i 0,.i 0,.i 0,.i 0,.s Sl.nil,.s Sl.nil,.s Sl.nil] (eS k.size 55 [.i c,.i d,.i e,.i f,.s g,.s h,.s i] (eS m.size 35 [.s a,.s b] (q (p.size,0) F))))))))) /\
 (∀ s t,q s t ->
 ∃ (u:Int->Mem->Prop) (v:Int->Mem->Nat),
 u 0 t /\
 (∀ x y,u x y ->
 iP (decide (x < j)) (rI y s.1 (s.2+3) fun z=>
 iP (z == 3) (cV q64 [vp s.1 s.2] y fun A B=>
 Sam [l.size,k.size,m.size] y B /\
 eS l.size 55 [.i 0,.i 0,.i 0,.i 0,.s Sl.nil,.s Sl.nil,.s Sl.nil] (eS k.size 55 [.i c,.i d,.i e,.i f,.s g,.s h,.s i] (eS m.size 35 [.s a,.s b] (u (w64 (x+1)) B/\v (w64 (x+1)) B < v x y)))) (rI y s.1 (s.2+3) fun A=>
 rI y s.1 (s.2+3+1) fun B=>
 rI y s.1 (s.2+3+2) fun C=>
 rI y s.1 (s.2+3+3) fun D=>
 rS y s.1 (s.2+3+4) fun E=>
 rS y s.1 (s.2+3+5) fun F=>
 rS y s.1 (s.2+3+6) fun G=>
 eT l.size (let H:=scells y l.size 0 [.i A,.i B,.i C,.i D,.s E,.s F,.s G]
 eT l.size (R (.tuple #[.agg #[vi A,vi B,vi C,vi D,Sl.v E,Sl.v F,Sl.v G],vb true]) H)))) (rI y s.1 (s.2+3) fun z=>
 rI y s.1 (s.2+3+1) fun A=>
 rI y s.1 (s.2+3+2) fun B=>
 rI y s.1 (s.2+3+3) fun C=>
 rS y s.1 (s.2+3+4) fun D=>
 rS y s.1 (s.2+3+5) fun E=>
 rS y s.1 (s.2+3+6) fun F=>
 eT l.size (let G:=scells y l.size 0 [.i z,.i A,.i B,.i C,.s D,.s E,.s F]
 eT l.size (R (.tuple #[.agg #[vi z,vi A,vi B,vi C,Sl.v D,Sl.v E,Sl.v F],vb true]) G))))))))))):cV q30 [.agg #[Sl.v a,Sl.v b],.agg #[vi c,vi d,vi e,vi f,Sl.v g,Sl.v h,Sl.v i],vi j] m R:=vcs (dl:=[3]) (A1:=[(5,[(9,.I)])]) (A2:=[(4,[(8,.P)])]) (A3:=[(4,[50,48,47]),(5,[50,48,47])]) (args:=[.agg [.s a,.s b],.agg [.i c,.i d,.i e,.i f,.s g,.s h,.s i],.c (.i j)]) Tryz.func27 h'

theorem qjo (a:Sl) (b:Int) (h' :
 iP (decide ((w64 (b - (a.len:Int))) < 0)) (R (vi (-1)) m) (∃ (c:Int->Int->Mem->Prop) (d:Int->Int->Mem->Nat),
 c (w64 (b - (a.len:Int))) 0 m /\
 (∀ e f g,c e f g ->
 iP (decide (f < a.len)) (0<=f/\f < a.len /\
 ∃ h:Int,gcell g a.blk (a.off+f.toNat*3)=some (vi h) /\
 ∃ i:Int,gcell g a.blk (a.off+f.toNat*3+1)=some (vi i) /\
 ∃ j:Sl,gcell g a.blk (a.off+f.toNat*3+2)=some (Sl.v j) /\
 cV qbv [.agg #[vi h,vi i,Sl.v j],vi e] g fun k l=>
 ∃ n:Int,k=vi n /\
 iP (decide (n < 0)) (R (vi (-1)) l) (c n (w64 (f+1)) l/\d n (w64 (f+1)) l < d e f g)) (R (vi e) g)))):cV qah [Sl.v a,vi b] m R:=vcs (dl:=[]) (A1:=[(5,[(1,.I),(5,.I)])]) (A2:=[]) (A3:=[]) (args:=[.c (.s a),.c (.i b)]) Tryz.func28 h'

theorem qk8 (a:Sl) (b:Int) (h' :
 iP (decide ((w64 (b - (a.len:Int))) < 0)) (R (vi (-1)) m) (∃ (c:Int->Int->Mem->Prop) (d:Int->Int->Mem->Nat),
 c (w64 (b - (a.len:Int))) 0 m /\
 (∀ e f g,c e f g ->
 iP (decide (f < a.len)) (0<=f/\f < a.len /\
 ∃ h:Sl,gcell g a.blk (a.off+f.toNat*5)=some (Sl.v h) /\
 ∃ i:Sl,gcell g a.blk (a.off+f.toNat*5+1)=some (Sl.v i) /\
 ∃ j:Int,gcell g a.blk (a.off+f.toNat*5+2)=some (vi j) /\
 ∃ k:Int,gcell g a.blk (a.off+f.toNat*5+3)=some (vi k) /\
 ∃ l:Sl,gcell g a.blk (a.off+f.toNat*5+4)=some (Sl.v l) /\
 cV qc4 [.agg #[Sl.v h,Sl.v i,vi j,vi k,Sl.v l],vi e] g fun n o=>
 ∃ p:Int,n=vi p /\
 iP (decide (p < 0)) (R (vi (-1)) o) (c p (w64 (f+1)) o/\d p (w64 (f+1)) o < d e f g)) (R (vi e) g)))):cV qav [Sl.v a,vi b] m R:=vcs (dl:=[]) (A1:=[(5,[(1,.I),(5,.I)])]) (A2:=[]) (A3:=[]) (args:=[.c (.s a),.c (.i b)]) Tryz.func29 h'

theorem qff (a b:Sl) (h' :
 let c:=m.push (.cells (vals [.s a,.s b]) 35)
 eT m.size (iP (decide ((b.len:Int) > 4)) (R (vb false) c) (eT m.size (cV q6m [.agg #[Sl.v a,Sl.v b]] c fun d e=>
 Sam [m.size] c e /\
 ∃ f:Sl,∃ g:Sl,d=.agg #[Sl.v f,Sl.v g] /\
 cB q8h [.agg #[Sl.v f,Sl.v g]] [m.size] e fun h i=>
 iP (!h) (R (vb false) i) (∃ (j:Int->Mem->Prop) (k:Int->Mem->Nat),
 j 0 i /\
 (∀ l n,j l n ->
 eT m.size (iP (decide (l < b.len)) (eT m.size (eT m.size (rg l b (rS n b.blk (b.off+l.toNat*5) fun o=>
 rS n b.blk (b.off+l.toNat*5+1) fun p=>
 rI n b.blk (b.off+l.toNat*5+2) fun q=>
 rI n b.blk (b.off+l.toNat*5+3) fun s=>
 rS n b.blk (b.off+l.toNat*5+4) fun t=>
 cB q82 [.agg #[Sl.v a,Sl.v b],.agg #[Sl.v o,Sl.v p,vi q,vi s,Sl.v t]] [m.size] n fun u v=>
 iP (!u) (R (vb false) v) (eS m.size 35 [.s a,.s b] (j (w64 (l+1)) v/\k (w64 (l+1)) v < k l n)))))) (R (vb true) n)))))))):cV q7m [.agg #[Sl.v a,Sl.v b]] m R:=vcs (dl:=[6]) (A1:=[(4,[(3,.I)])]) (A2:=[]) (A3:=[(4,[30])]) (args:=[.agg [.s a,.s b]]) Tryz.func30 h'

theorem qip (a b c:Int) (h' :
 iP (decide (b<=a)) (R (vb (decide (a<=c))) m) (R (vb false) m)):cV q0d [vi a,vi b,vi c] m R:=vcs (dl:=[]) (A1:=[]) (A2:=[]) (A3:=[]) (args:=[.c (.i a),.c (.i b),.c (.i c)]) Tryz.func31 h'

theorem qjx (a:Sl) (h' :
 0<=(a.len:Int)/\(a.len:Int)<=(a.len:Int)/\((40:Nat):Int)*(a.len:Int)<=281474976710656/\(a.len:Int)<=9223372036854775807 /\
 let b:=m.push (.cells (vals (zrow [.i 0,.i 0,.s Sl.nil] (Int.toNat (a.len:Int)))) 122)
 ∃ (c:Int->Mem->Prop) (d:Int->Mem->Nat),
 c 0 b /\
 (∀ e f,c e f ->
 iP (decide (e < a.len)) (0<=e/\e < a.len /\
 ∃ g:Int,gcell f a.blk (a.off+e.toNat*3)=some (vi g) /\
 ∃ h:Int,gcell f a.blk (a.off+e.toNat*3+1)=some (vi h) /\
 ∃ i:Sl,gcell f a.blk (a.off+e.toNat*3+2)=some (Sl.v i) /\
 cV qbw [.agg #[vi g,vi h,Sl.v i]] f fun j k=>
 ∃ l:Int,∃ n:Int,∃ o:Sl,j=.agg #[vi l,vi n,Sl.v o] /\
 0<=e/\e < ((Sl.mk m.size 0 (Int.toNat (a.len:Int)) (Int.toNat (a.len:Int))).len:Int) /\
 wrOk k ((Sl.mk m.size 0 (Int.toNat (a.len:Int)) (Int.toNat (a.len:Int))).blk) ((Sl.mk m.size 0 (Int.toNat (a.len:Int)) (Int.toNat (a.len:Int))).off+e.toNat*3) 3 /\
 let p:=scells k ((Sl.mk m.size 0 (Int.toNat (a.len:Int)) (Int.toNat (a.len:Int))).blk) ((Sl.mk m.size 0 (Int.toNat (a.len:Int)) (Int.toNat (a.len:Int))).off+e.toNat*3) [.i l,.i n,.s o]
 c (w64 (e+1)) p/\d (w64 (e+1)) p < d e f) (R (Sl.v (Sl.mk m.size 0 (Int.toNat (a.len:Int)) (Int.toNat (a.len:Int)))) f))):cV qan [Sl.v a] m R:=vcs (dl:=[]) (A1:=[(3,[(4,.I)])]) (A2:=[]) (A3:=[]) (args:=[.c (.s a)]) Tryz.func34 h'

theorem qiz (a:Sl) (h' :
 0<=(a.len:Int)/\(a.len:Int)<=(a.len:Int)/\((88:Nat):Int)*(a.len:Int)<=281474976710656/\(a.len:Int)<=9223372036854775807 /\
 let b:=m.push (.cells (vals (zrow [.s Sl.nil,.s Sl.nil,.i 0,.i 0,.s Sl.nil] (Int.toNat (a.len:Int)))) 89)
 ∃ (c:Int->Mem->Prop) (d:Int->Mem->Nat),
 c 0 b /\
 (∀ e f,c e f ->
 iP (decide (e < a.len)) (0<=e/\e < a.len /\
 ∃ g:Sl,gcell f a.blk (a.off+e.toNat*5)=some (Sl.v g) /\
 ∃ h:Sl,gcell f a.blk (a.off+e.toNat*5+1)=some (Sl.v h) /\
 ∃ i:Int,gcell f a.blk (a.off+e.toNat*5+2)=some (vi i) /\
 ∃ j:Int,gcell f a.blk (a.off+e.toNat*5+3)=some (vi j) /\
 ∃ k:Sl,gcell f a.blk (a.off+e.toNat*5+4)=some (Sl.v k) /\
 cV qbn [.agg #[Sl.v g,Sl.v h,vi i,vi j,Sl.v k]] f fun l n=>
 ∃ o:Sl,∃ p:Sl,∃ q:Int,∃ s:Int,∃ t:Sl,l=.agg #[Sl.v o,Sl.v p,vi q,vi s,Sl.v t] /\
 0<=e/\e < ((Sl.mk m.size 0 (Int.toNat (a.len:Int)) (Int.toNat (a.len:Int))).len:Int) /\
 wrOk n ((Sl.mk m.size 0 (Int.toNat (a.len:Int)) (Int.toNat (a.len:Int))).blk) ((Sl.mk m.size 0 (Int.toNat (a.len:Int)) (Int.toNat (a.len:Int))).off+e.toNat*5) 5 /\
 let u:=scells n ((Sl.mk m.size 0 (Int.toNat (a.len:Int)) (Int.toNat (a.len:Int))).blk) ((Sl.mk m.size 0 (Int.toNat (a.len:Int)) (Int.toNat (a.len:Int))).off+e.toNat*5) [.s o,.s p,.i q,.i s,.s t]
 c (w64 (e+1)) u/\d (w64 (e+1)) u < d e f) (R (Sl.v (Sl.mk m.size 0 (Int.toNat (a.len:Int)) (Int.toNat (a.len:Int)))) f))):cV qa0 [Sl.v a] m R:=vcs (dl:=[]) (A1:=[(3,[(4,.I)])]) (A2:=[]) (A3:=[]) (args:=[.c (.s a)]) Tryz.func35 h'

theorem qfa (a b:Sl) (h' :
 let c:=m.push (.cells (vals [.s a,.s b]) 35)
 eT m.size (cV q8v [.agg #[Sl.v a,Sl.v b]] c fun d e=>
 Sam [m.size] c e /\
 ∃ f:Sl,∃ g:Sl,∃ h:Bool,d=.tuple #[.agg #[Sl.v f,Sl.v g],vb h] /\
 let i:=e.push (.cells (vals [.s Sl.nil,.s Sl.nil]) 127)
 eT e.size (let j:=scells i e.size 0 [.s f,.s g]
 iP (!h) (R (vb false) j) (eT m.size (∃ (k:Int->Mem->Prop) (l:Int->Mem->Nat),
 k 0 j /\
 (∀ n o,k n o ->
 iP (decide (n < b.len)) (rg n b (rS o b.blk (b.off+n.toNat*5) fun p=>
 rS o b.blk (b.off+n.toNat*5+1) fun q=>
 rI o b.blk (b.off+n.toNat*5+2) fun s=>
 rI o b.blk (b.off+n.toNat*5+3) fun t=>
 rS o b.blk (b.off+n.toNat*5+4) fun u=>
 let v:=o.push (.cells (vals [.s Sl.nil,.s Sl.nil,.i 0,.i 0,.s Sl.nil]) 89)
 eT o.size (let x:=scells v o.size 0 [.s p,.s q,.i s,.i t,.s u]
 eT o.size (eT o.size (iP (decide (t < (if (p.len:Int) > 1 then (p.len:Int) else 1))) (R (vb false) x) (eT o.size (iP (decide (t > 2000)) (R (vb false) x) (eT o.size (iP (decide ((u.len:Int) < 1)) (R (vb false) x) (eT o.size (iP (decide ((u.len:Int) > 2000)) (R (vb false) x) (∃ y:Mem->Prop,
 (eT o.size (eT o.size (rg (w64 ((u.len:Int) - 1)) u (rI x u.blk (u.off+Int.toNat (w64 ((u.len:Int) - 1))*6) fun z=>
 iP (z != 23) (iP (z != 24) (R (vb false) x) (eS o.size 89 [.s p,.s q,.i s,.i t,.s u] (eS e.size 127 [.s f,.s g] (eS m.size 35 [.s a,.s b] (y x))))) (eS o.size 89 [.s p,.s q,.i s,.i t,.s u] (eS e.size 127 [.s f,.s g] (eS m.size 35 [.s a,.s b] (y x)))))))) /\
 (∀ z,y z ->
 eT o.size (∃ (A:Int->Mem->Prop) (B:Int->Mem->Nat),
 A 0 z /\
 (∀ C D,A C D ->
 iP (decide (C < u.len)) (rg C u (rI D u.blk (u.off+C.toNat*6) fun E=>
 rI D u.blk (u.off+C.toNat*6+1) fun F=>
 rI D u.blk (u.off+C.toNat*6+2) fun G=>
 rI D u.blk (u.off+C.toNat*6+3) fun H=>
 rS D u.blk (u.off+C.toNat*6+4) fun J=>
 rS D u.blk (u.off+C.toNat*6+5) fun K=>
 let L:=D.push (.cells (vals [.i 0,.i 0,.i 0,.i 0,.s Sl.nil,.s Sl.nil]) 86)
 eT D.size (let M:=scells L D.size 0 [.i E,.i F,.i G,.i H,.s J,.s K]
 eT e.size (eT o.size (eT D.size (cB q3u [.agg #[Sl.v f,Sl.v g],.agg #[Sl.v p,Sl.v q,vi s,vi t,Sl.v u],vi C,.agg #[vi E,vi F,vi G,vi H,Sl.v J,Sl.v K]] [D.size,o.size,e.size,m.size] M fun N O=>
 iP (!N) (R (vb false) O) (eS o.size 89 [.s p,.s q,.i s,.i t,.s u] (eS e.size 127 [.s f,.s g] (eS m.size 35 [.s a,.s b] (A (w64 (C+1)) O/\B (w64 (C+1)) O < B C D)))))))))) (eS e.size 127 [.s f,.s g] (eS m.size 35 [.s a,.s b] (k (w64 (n+1)) D/\l (w64 (n+1)) D < l n o)))))))))))))))))) (R (vb true) o))))))):cV q76 [.agg #[Sl.v a,Sl.v b]] m R:=vcs (dl:=[]) (A1:=[(5,[(20,.I)]),(13,[(66,.I)])]) (A2:=[(12,[])]) (A3:=[(5,[82,80]),(12,[85,82,80]),(13,[85,82,80])]) (args:=[.agg [.s a,.s b]]) Tryz.func36 h'

theorem qi6 (a:Sl) (h' :
 ∃ (b:Int->Int->Mem->Prop) (c:Int->Int->Mem->Nat),
 b 0 0 m /\
 (∀ d e f,b d e f ->
 iP (decide (e < a.len)) (rg e a (rI f a.blk (a.off+e.toNat*3) fun g=>
 rI f a.blk (a.off+e.toNat*3+1) fun h=>
 rS f a.blk (a.off+e.toNat*3+2) fun i=>
 let j:=f.push (.cells (vals [.i 0,.i 0,.s Sl.nil]) 122)
 eT f.size (let k:=scells j f.size 0 [.i g,.i h,.s i]
 eT f.size (b (w64 (d+(i.len:Int))) (w64 (e+1)) k/\c (w64 (d+(i.len:Int))) (w64 (e+1)) k < c d e f)))) (R (vi d) f))):cV q3j [Sl.v a] m R:=vcs (dl:=[]) (A1:=[(3,[(3,.I),(8,.I)])]) (A2:=[]) (A3:=[]) (args:=[.c (.s a)]) Tryz.func37 h'

end
section
set_option linter.unusedVariables false
set_option maxRecDepth 100000
variable {m:Mem} {R:Value->Mem->Prop}
theorem qe2 (a:Nat × Nat) (h' :
 rI m a.1 (a.2+3) fun b=>
 iP (b != 3) (R (.tuple #[]) m) (rS m a.1 (a.2+3+6) fun c=>
 rS m a.1 (a.2+3+6) fun d=>
 rg (w64 ((d.len:Int) - 1)) c (rS m a.1 (a.2+1) fun e=>
 rI m c.blk (c.off+Int.toNat (w64 ((d.len:Int) - 1))*6) fun f=>
 rg f e (rS m e.blk (e.off+f.toNat*5+4) fun g=>
 rI m c.blk (c.off+Int.toNat (w64 ((d.len:Int) - 1))*6+1) fun h=>
 rg h g (rI m g.blk (g.off+h.toNat*6) fun i=>
 rI m g.blk (g.off+h.toNat*6+1) fun j=>
 rI m g.blk (g.off+h.toNat*6+2) fun k=>
 rI m g.blk (g.off+h.toNat*6+3) fun l=>
 rS m g.blk (g.off+h.toNat*6+4) fun n=>
 rS m g.blk (g.off+h.toNat*6+5) fun o=>
 let p:=m.push (.cells (vals [.i 0,.i 0,.i 0,.i 0,.s Sl.nil,.s Sl.nil]) 86)
 gk p m g.blk (g.off+h.toNat*6) /\
 gk p m g.blk (g.off+h.toNat*6+1) /\
 gk p m g.blk (g.off+h.toNat*6+2) /\
 gk p m g.blk (g.off+h.toNat*6+3) /\
 gk p m g.blk (g.off+h.toNat*6+4) /\
 gk p m g.blk (g.off+h.toNat*6+5) /\
 gk p m c.blk (c.off+Int.toNat (w64 ((d.len:Int) - 1))*6+1) /\
 gk p m e.blk (e.off+f.toNat*5+4) /\
 gk p m c.blk (c.off+Int.toNat (w64 ((d.len:Int) - 1))*6) /\
 gk p m a.1 (a.2+1) /\
 eT m.size (let q:=scells p m.size 0 [.i i,.i j,.i k,.i l,.s n,.s o]
 ∃ s:Bool->Mem->Prop,
 (eT m.size (iP (i == 9) (eS m.size 86 [.i i,.i j,.i k,.i l,.s n,.s o] (s true q)) (eT m.size (iP (i == 11) (eS m.size 86 [.i i,.i j,.i k,.i l,.s n,.s o] (s true q)) (eT m.size (eS m.size 86 [.i i,.i j,.i k,.i l,.s n,.s o] (s (i == 24) q))))))) /\
 (∀ t u,s t u ->
 iP t (rI u a.1 (a.2+3+2) fun v=>
 rI u a.1 (a.2+3+3) fun x=>
 iP (v == x) (wrOk u a.1 (a.2+3) 1 /\
 let y:=scells u a.1 (a.2+3) [.i 1]
 Sam [m.size] u y /\
 R (.tuple #[]) y) (eT m.size (cB q41 [vp a.1 a.2,vp c.blk (c.off+Int.toNat (w64 ((d.len:Int) - 1))*6),.agg #[vi i,vi j,vi k,vi l,Sl.v n,Sl.v o]] [m.size] u fun y z=>
 iP (!y) (wrOk z a.1 (a.2+3) 1 /\
 let A:=scells z a.1 (a.2+3) [.i 2]
 Sam [m.size] z A /\
 R (.tuple #[]) A) (eT m.size (cV q4b [vp a.1 a.2,vp c.blk (c.off+Int.toNat (w64 ((d.len:Int) - 1))*6),.agg #[vi i,vi j,vi k,vi l,Sl.v n,Sl.v o]] z fun A B=>
 Sam [m.size] z B /\
 R (.tuple #[]) B))))) (eT m.size (cB q41 [vp a.1 a.2,vp c.blk (c.off+Int.toNat (w64 ((d.len:Int) - 1))*6),.agg #[vi i,vi j,vi k,vi l,Sl.v n,Sl.v o]] [m.size] u fun v x=>
 iP (!v) (wrOk x a.1 (a.2+3) 1 /\
 let y:=scells x a.1 (a.2+3) [.i 2]
 Sam [m.size] x y /\
 R (.tuple #[]) y) (eT m.size (cV q4b [vp a.1 a.2,vp c.blk (c.off+Int.toNat (w64 ((d.len:Int) - 1))*6),.agg #[vi i,vi j,vi k,vi l,Sl.v n,Sl.v o]] x fun y z=>
 Sam [m.size] x z /\
 R (.tuple #[]) z))))))))))):cV q64 [vp a.1 a.2] m R:=vcs (dl:=[1,2,5]) (A1:=[]) (A2:=[(5,[(4,.T)])]) (A3:=[(5,[91])]) (args:=[.c (.p a.1 a.2)]) Tryz.func39 h'

theorem qlb (a b:Sl) (h' :
 iP ((a.len:Int) != (b.len:Int)) (R (vb false) m) (∃ (c:Int->Mem->Prop) (d:Int->Mem->Nat),
 c 0 m /\
 (∀ e f,c e f ->
 iP (decide (e < a.len)) (0<=e/\e < a.len /\
 ∃ g:Int,gcell f a.blk (a.off+e.toNat*1)=some (vi g) /\
 0<=e/\e < b.len /\
 ∃ h:Int,gcell f b.blk (b.off+e.toNat*1)=some (vi h) /\
 iP (g != h) (R (vb false) f) (c (w64 (e+1)) f/\d (w64 (e+1)) f < d e f)) (R (vb true) f)))):cV q22 [Sl.v a,Sl.v b] m R:=vcs (dl:=[6]) (A1:=[(4,[(5,.I)])]) (A2:=[]) (A3:=[]) (args:=[.c (.s a),.c (.s b)]) Tryz.func40 h'

theorem qj0 (a b:Sl) (h' :
 iP ((a.len:Int) != (b.len:Int)) (R (vb false) m) (∃ (c:Int->Mem->Prop) (d:Int->Mem->Nat),
 c 0 m /\
 (∀ e f,c e f ->
 iP (decide (e < a.len)) (0<=e/\e < a.len /\
 ∃ g:Int,gcell f a.blk (a.off+e.toNat*3)=some (vi g) /\
 ∃ h:Int,gcell f a.blk (a.off+e.toNat*3+1)=some (vi h) /\
 ∃ i:Sl,gcell f a.blk (a.off+e.toNat*3+2)=some (Sl.v i) /\
 0<=e/\e < b.len /\
 ∃ j:Int,gcell f b.blk (b.off+e.toNat*3)=some (vi j) /\
 ∃ k:Int,gcell f b.blk (b.off+e.toNat*3+1)=some (vi k) /\
 ∃ l:Sl,gcell f b.blk (b.off+e.toNat*3+2)=some (Sl.v l) /\
 cV qby [.agg #[vi g,vi h,Sl.v i],.agg #[vi j,vi k,Sl.v l]] f fun n o=>
 ∃ p:Bool,n=vb p /\
 iP (!p) (R (vb false) o) (c (w64 (e+1)) o/\d (w64 (e+1)) o < d e f)) (R (vb true) f)))):cV qag [Sl.v a,Sl.v b] m R:=vcs (dl:=[6]) (A1:=[(4,[(5,.I)])]) (A2:=[]) (A3:=[]) (args:=[.c (.s a),.c (.s b)]) Tryz.func41 h'

theorem qkg (a b:Sl) (h' :
 iP ((a.len:Int) != (b.len:Int)) (R (vb false) m) (∃ (c:Int->Mem->Prop) (d:Int->Mem->Nat),
 c 0 m /\
 (∀ e f,c e f ->
 iP (decide (e < a.len)) (0<=e/\e < a.len /\
 ∃ g:Sl,gcell f a.blk (a.off+e.toNat*5)=some (Sl.v g) /\
 ∃ h:Sl,gcell f a.blk (a.off+e.toNat*5+1)=some (Sl.v h) /\
 ∃ i:Int,gcell f a.blk (a.off+e.toNat*5+2)=some (vi i) /\
 ∃ j:Int,gcell f a.blk (a.off+e.toNat*5+3)=some (vi j) /\
 ∃ k:Sl,gcell f a.blk (a.off+e.toNat*5+4)=some (Sl.v k) /\
 0<=e/\e < b.len /\
 ∃ l:Sl,gcell f b.blk (b.off+e.toNat*5)=some (Sl.v l) /\
 ∃ n:Sl,gcell f b.blk (b.off+e.toNat*5+1)=some (Sl.v n) /\
 ∃ o:Int,gcell f b.blk (b.off+e.toNat*5+2)=some (vi o) /\
 ∃ p:Int,gcell f b.blk (b.off+e.toNat*5+3)=some (vi p) /\
 ∃ q:Sl,gcell f b.blk (b.off+e.toNat*5+4)=some (Sl.v q) /\
 cV qbt [.agg #[Sl.v g,Sl.v h,vi i,vi j,Sl.v k],.agg #[Sl.v l,Sl.v n,vi o,vi p,Sl.v q]] f fun s t=>
 ∃ u:Bool,s=vb u /\
 iP (!u) (R (vb false) t) (c (w64 (e+1)) t/\d (w64 (e+1)) t < d e f)) (R (vb true) f)))):cV qa5 [Sl.v a,Sl.v b] m R:=vcs (dl:=[6]) (A1:=[(4,[(5,.I)])]) (A2:=[]) (A3:=[]) (args:=[.c (.s a),.c (.s b)]) Tryz.func42 h'

theorem qgp (a:Sl) (b:Int) (h' :
 ∃ (c:Int->Int->Mem->Prop) (d:Int->Int->Mem->Nat),
 c b 0 m /\
 (∀ e f g,c e f g ->
 iP (decide (f < a.len)) (0<=f/\f < a.len /\
 wrOk g a.blk (a.off+f.toNat*3) 1 /\
 let h:=scells g a.blk (a.off+f.toNat*3) [.i e]
 0<=f/\f < a.len /\
 wrOk h a.blk (a.off+f.toNat*3+1) 1 /\
 let i:=scells h a.blk (a.off+f.toNat*3+1) [.i (w64 (e+1))]
 0<=f/\f < a.len /\
 ∃ j:Sl,gcell i a.blk (a.off+f.toNat*3+2)=some (Sl.v j) /\
 cV q9f [Sl.v j,vi (w64 ((w64 (e+1))+1))] i fun k l=>
 ∃ n:Int,k=vi n /\
 c n (w64 (f+1)) l/\d n (w64 (f+1)) l < d e f g) (R (vi e) g))):cV q87 [Sl.v a,vi b] m R:=vcs (dl:=[]) (A1:=[(2,[(1,.I),(5,.I)])]) (A2:=[]) (A3:=[]) (args:=[.c (.s a),.c (.i b)]) Tryz.func43 h'

theorem qgc (a:Sl) (b:Int) (h' :
 ∃ (c:Int->Int->Mem->Prop) (d:Int->Int->Mem->Nat),
 c b 0 m /\
 (∀ e f g,c e f g ->
 iP (decide (f < a.len)) (0<=f/\f < a.len /\
 ∃ h:Sl,gcell g a.blk (a.off+f.toNat*5)=some (Sl.v h) /\
 cV q1t [Sl.v h,vi e] g fun i j=>
 ∃ k:Int,i=vi k /\
 0<=f/\f < a.len /\
 ∃ l:Sl,gcell j a.blk (a.off+f.toNat*5+1)=some (Sl.v l) /\
 cV q1t [Sl.v l,vi k] j fun n o=>
 ∃ p:Int,n=vi p /\
 0<=f/\f < a.len /\
 wrOk o a.blk (a.off+f.toNat*5+2) 1 /\
 let q:=scells o a.blk (a.off+f.toNat*5+2) [.i p]
 0<=f/\f < a.len /\
 wrOk q a.blk (a.off+f.toNat*5+3) 1 /\
 let s:=scells q a.blk (a.off+f.toNat*5+3) [.i (w64 (p+1))]
 0<=f/\f < a.len /\
 ∃ t:Sl,gcell s a.blk (a.off+f.toNat*5+4)=some (Sl.v t) /\
 cV q7f [Sl.v t,vi (w64 ((w64 (p+1))+1))] s fun u v=>
 ∃ x:Int,u=vi x /\
 c x (w64 (f+1)) v/\d x (w64 (f+1)) v < d e f g) (R (vi e) g))):cV q8p [Sl.v a,vi b] m R:=vcs (dl:=[]) (A1:=[(2,[(1,.I),(5,.I)])]) (A2:=[]) (A3:=[]) (args:=[.c (.s a),.c (.i b)]) Tryz.func44 h'

theorem qi5 (a:Sl) (b:Int) (h' :
 ∃ (c:Int->Int->Mem->Prop) (d:Int->Int->Mem->Nat),
 c b 0 m /\
 (∀ e f g,c e f g ->
 iP (decide (f < a.len)) (0<=f/\f < a.len /\
 wrOk g a.blk (a.off+f.toNat*1) 1 /\
 let h:=scells g a.blk (a.off+f.toNat*1) [.i e]
 c (w64 (e+1)) (w64 (f+1)) h/\d (w64 (e+1)) (w64 (f+1)) h < d e f g) (R (vi e) g))):cV q1t [Sl.v a,vi b] m R:=vcs (dl:=[]) (A1:=[(2,[(1,.I),(5,.I)])]) (A2:=[]) (A3:=[]) (args:=[.c (.s a),.c (.i b)]) Tryz.func45 h'

theorem qi9 (a:Sl) (b:Int) (h' :
 ∃ (c:Int->Int->Mem->Prop) (d:Int->Int->Mem->Nat),
 c b 0 m /\
 (∀ e f g,c e f g ->
 iP (decide (f < a.len)) (0<=f/\f < a.len /\
 ∃ h:Int,gcell g a.blk (a.off+f.toNat*1)=some (vi h) /\
 iP (h != e) (R (vi (-1)) g) (c (w64 (e+1)) (w64 (f+1)) g/\d (w64 (e+1)) (w64 (f+1)) g < d e f g)) (R (vi e) g))):cV q3g [Sl.v a,vi b] m R:=vcs (dl:=[]) (A1:=[(2,[(1,.I),(5,.I)])]) (A2:=[]) (A3:=[]) (args:=[.c (.s a),.c (.i b)]) Tryz.func46 h'

theorem qkt (a:Sl) (b:Int) (h' :
 iP (decide ((w64 (b - (a.len:Int))) < 0)) (R (vi (-1)) m) (R (vi (w64 (b - (a.len:Int)))) m)):cV q25 [Sl.v a,vi b] m R:=vcs (dl:=[]) (A1:=[]) (A2:=[]) (A3:=[]) (args:=[.c (.s a),.c (.i b)]) Tryz.func50 h'

theorem qjq (a:Sl) (b:Int) (h' :
 iP (decide ((w64 (b - (a.len:Int))) < 0)) (R (vi (-1)) m) (∃ (c:Int->Int->Mem->Prop) (d:Int->Int->Mem->Nat),
 c (w64 (b - (a.len:Int))) 0 m /\
 (∀ e f g,c e f g ->
 iP (decide (f < a.len)) (0<=f/\f < a.len /\
 ∃ h:Int,gcell g a.blk (a.off+f.toNat*3)=some (vi h) /\
 ∃ i:Int,gcell g a.blk (a.off+f.toNat*3+1)=some (vi i) /\
 ∃ j:Sl,gcell g a.blk (a.off+f.toNat*3+2)=some (Sl.v j) /\
 cV qbj [.agg #[vi h,vi i,Sl.v j],vi e] g fun k l=>
 ∃ n:Int,k=vi n /\
 iP (decide (n < 0)) (R (vi (-1)) l) (c n (w64 (f+1)) l/\d n (w64 (f+1)) l < d e f g)) (R (vi e) g)))):cV qae [Sl.v a,vi b] m R:=vcs (dl:=[]) (A1:=[(5,[(1,.I),(5,.I)])]) (A2:=[]) (A3:=[]) (args:=[.c (.s a),.c (.i b)]) Tryz.func51 h'

theorem qht (a:Sl) (b:Int) (h' :
 iP (decide ((w64 (b - (a.len:Int))) < 0)) (R (vi (-1)) m) (∃ (c:Int->Int->Mem->Prop) (d:Int->Int->Mem->Nat),
 c (w64 (b - (a.len:Int))) 0 m /\
 (∀ e f g,c e f g ->
 iP (decide (f < a.len)) (0<=f/\f < a.len /\
 ∃ h:Int,gcell g a.blk (a.off+f.toNat*6)=some (vi h) /\
 ∃ i:Int,gcell g a.blk (a.off+f.toNat*6+1)=some (vi i) /\
 ∃ j:Int,gcell g a.blk (a.off+f.toNat*6+2)=some (vi j) /\
 ∃ k:Sl,gcell g a.blk (a.off+f.toNat*6+3)=some (Sl.v k) /\
 ∃ l:Sl,gcell g a.blk (a.off+f.toNat*6+4)=some (Sl.v l) /\
 ∃ n:Sl,gcell g a.blk (a.off+f.toNat*6+5)=some (Sl.v n) /\
 cV qac [.agg #[vi h,vi i,vi j,Sl.v k,Sl.v l,Sl.v n],vi e] g fun o p=>
 ∃ q:Int,o=vi q /\
 iP (decide (q < 0)) (R (vi (-1)) p) (c q (w64 (f+1)) p/\d q (w64 (f+1)) p < d e f g)) (R (vi e) g)))):cV q9d [Sl.v a,vi b] m R:=vcs (dl:=[]) (A1:=[(5,[(1,.I),(5,.I)])]) (A2:=[]) (A3:=[]) (args:=[.c (.s a),.c (.i b)]) Tryz.func52 h'

theorem qez (a b:Sl) (c d e f:Int) (g h i:Sl) (h' :
 let j:=m.push (.cells (vals [.s a,.s b]) 35)
 let k:=j.push (.cells (vals [.i c,.i d,.i e,.i f,.s g,.s h,.s i]) 55)
 eT m.size (cB q7m [.agg #[Sl.v a,Sl.v b]] [j.size,m.size] k fun l n=>
 iP (!l) (R (vb false) n) (eT j.size (cB q0d [vi c,vi 0,vi 3] [j.size,m.size] n fun o p=>
 iP (!o) (R (vb false) p) (eT j.size (eT j.size (iP (!((c == 0) == ((i.len:Int) == 0))) (R (vb false) p) (∃ q:Mem->Prop,
 (eT j.size (cB q0d [vi d,vi (-999),vi 999] [j.size,m.size] p fun s t=>
 iP (!s) (R (vb false) t) (eT j.size (iP (d != 0) (eT j.size (iP (c != 0) (R (vb false) t) (eT j.size (cB q0d [vi f,vi 0,vi 40] [j.size,m.size] t fun u v=>
 iP (!u) (R (vb false) v) (eT j.size (eT j.size (cB q0d [vi e,vi 0,vi f] [j.size,m.size] v fun x y=>
 iP (!x) (R (vb false) y) (eS j.size 55 [.i c,.i d,.i e,.i f,.s g,.s h,.s i] (eS m.size 35 [.s a,.s b] (q y)))))))))) (eT j.size (cB q0d [vi f,vi 0,vi 40] [j.size,m.size] t fun u v=>
 iP (!u) (R (vb false) v) (eT j.size (eT j.size (cB q0d [vi e,vi 0,vi f] [j.size,m.size] v fun x y=>
 iP (!x) (R (vb false) y) (eS j.size 55 [.i c,.i d,.i e,.i f,.s g,.s h,.s i] (eS m.size 35 [.s a,.s b] (q y)))))))))))) /\
 (∀ s,q s ->
 eT j.size (eT j.size (iP (decide ((i.len:Int) > (w64 (e+1)))) (R (vb false) s) (eT j.size (cB q7n [Sl.v g] [j.size,m.size] s fun t u=>
 iP (!t) (R (vb false) u) (eT j.size (cB q8j [Sl.v h] [j.size,m.size] u fun v x=>
 iP (!v) (R (vb false) x) (∃ (y:Int->Mem->Prop) (z:Int->Mem->Nat),
 y 0 x /\
 (∀ A B,y A B ->
 eT j.size (iP (decide (A < i.len)) (eT m.size (eT j.size (cB q75 [.agg #[Sl.v a,Sl.v b],.agg #[vi c,vi d,vi e,vi f,Sl.v g,Sl.v h,Sl.v i],vi A] [j.size,m.size] B fun C D=>
 iP (!C) (R (vb false) D) (eS j.size 55 [.i c,.i d,.i e,.i f,.s g,.s h,.s i] (eS m.size 35 [.s a,.s b] (y (w64 (A+1)) D/\z (w64 (A+1)) D < z A B)))))) (eT j.size (cB q9e [.agg #[vi c,vi d,vi e,vi f,Sl.v g,Sl.v h,Sl.v i]] [j.size,m.size] B fun C D=>
 iP C (eT j.size (cB q6k [.agg #[vi c,vi d,vi e,vi f,Sl.v g,Sl.v h,Sl.v i]] [j.size,m.size] D fun E F=>
 R (vb E) F)) (R (vb false) D))))))))))))))))))))):cV q78 [.agg #[Sl.v a,Sl.v b],.agg #[vi c,vi d,vi e,vi f,Sl.v g,Sl.v h,Sl.v i]] m R:=vcs (dl:=[]) (A1:=[(8,[(5,.I)])]) (A2:=[(5,[])]) (A3:=[(5,[93,92]),(8,[93,92])]) (args:=[.agg [.s a,.s b],.agg [.i c,.i d,.i e,.i f,.s g,.s h,.s i]]) Tryz.func53 h'

end
section
set_option linter.unusedVariables false
set_option maxRecDepth 100000
variable {m:Mem} {R:Value->Mem->Prop}
theorem qgu (a b c d:Int) (e f g:Sl) (h' :
 let h:=m.push (.cells (vals [.i a,.i b,.i c,.i d,.s e,.s f,.s g]) 55)
 let i:=h.push (.cells (vals [.i 0,.i 0,.i 0,.i 0,.s Sl.nil,.s Sl.nil,.s Sl.nil]) 55)
 ∃ j:(Nat × Nat)->Mem->Prop,
 (eT m.size (eT m.size (eT m.size (eT m.size (eT m.size (eT m.size ((cS q15 [Sl.v e] [h.size,m.size] i fun k l=>
 gk l i m.size 5 /\
 gk l i m.size 3 /\
 gk l i m.size 2 /\
 gk l i m.size 1 /\
 gk l i m.size 0 /\
 (cS q1f [Sl.v f] [h.size,m.size] l fun n o=>
 gk o l m.size 3 /\
 gk o l m.size 2 /\
 gk o l m.size 1 /\
 gk o l m.size 0 /\
 (let p:=o.push (.cells (vals []) 84)
 gk p o m.size 5 /\
 gk p o m.size 4 /\
 gk p o m.size 3 /\
 gk p o m.size 2 /\
 gk p o m.size 1 /\
 gk p o m.size 0 /\
 let q:=p.push (.cells (vals [.i 0,.i 0,.i 0,.i 0,.s Sl.nil,.s Sl.nil,.s Sl.nil]) 55)
 gk q p m.size 5 /\
 gk q p m.size 4 /\
 gk q p m.size 3 /\
 gk q p m.size 2 /\
 gk q p m.size 1 /\
 gk q p m.size 0 /\
 eT p.size (let s:=scells q p.size 0 [.i a,.i b,.i c,.i d,.s k,.s n,.s (Sl.mk o.size 0 0 0)]
 eS h.size 55 [.i 0,.i 0,.i 0,.i 0,.s Sl.nil,.s Sl.nil,.s Sl.nil] (eS m.size 55 [.i a,.i b,.i c,.i d,.s e,.s f,.s g] (j (p.size,0) s)))) /\
 (let p:=o.push (.cells (vals [.i 0,.i 0,.i 0,.i 0,.s Sl.nil,.s Sl.nil,.s Sl.nil]) 55)
 gk p o m.size 5 /\
 gk p o m.size 4 /\
 gk p o m.size 3 /\
 gk p o m.size 2 /\
 gk p o m.size 1 /\
 gk p o m.size 0 /\
 let q:=p.push (.cells (vals []) 84)
 gk q p m.size 5 /\
 gk q p m.size 4 /\
 gk q p m.size 3 /\
 gk q p m.size 2 /\
 gk q p m.size 1 /\
 gk q p m.size 0 /\
 eT o.size (let s:=scells q o.size 0 [.i a,.i b,.i c,.i d,.s k,.s n,.s (Sl.mk p.size 0 0 0)]
 eS h.size 55 [.i 0,.i 0,.i 0,.i 0,.s Sl.nil,.s Sl.nil,.s Sl.nil] (eS m.size 55 [.i a,.i b,.i c,.i d,.s e,.s f,.s g] (j (o.size,0) s))))) /\
 (let n:=l.push (.cells (vals []) 84)
 gk n l m.size 5 /\
 gk n l m.size 4 /\
 gk n l m.size 3 /\
 gk n l m.size 2 /\
 gk n l m.size 1 /\
 gk n l m.size 0 /\
 (cS q1f [Sl.v f] [h.size,m.size] n fun o p=>
 gk p n m.size 3 /\
 gk p n m.size 2 /\
 gk p n m.size 1 /\
 gk p n m.size 0 /\
 let q:=p.push (.cells (vals [.i 0,.i 0,.i 0,.i 0,.s Sl.nil,.s Sl.nil,.s Sl.nil]) 55)
 gk q p m.size 5 /\
 gk q p m.size 4 /\
 gk q p m.size 3 /\
 gk q p m.size 2 /\
 gk q p m.size 1 /\
 gk q p m.size 0 /\
 eT p.size (let s:=scells q p.size 0 [.i a,.i b,.i c,.i d,.s k,.s o,.s (Sl.mk l.size 0 0 0)]
 eS h.size 55 [.i 0,.i 0,.i 0,.i 0,.s Sl.nil,.s Sl.nil,.s Sl.nil] (eS m.size 55 [.i a,.i b,.i c,.i d,.s e,.s f,.s g] (j (p.size,0) s)))) /\
 (let o:=n.push (.cells (vals [.i 0,.i 0,.i 0,.i 0,.s Sl.nil,.s Sl.nil,.s Sl.nil]) 55)
 gk o n m.size 5 /\
 gk o n m.size 4 /\
 gk o n m.size 3 /\
 gk o n m.size 2 /\
 gk o n m.size 1 /\
 gk o n m.size 0 /\
 cS q1f [Sl.v f] [n.size,h.size,m.size] o fun p q=>
 gk q o m.size 3 /\
 gk q o m.size 2 /\
 gk q o m.size 1 /\
 gk q o m.size 0 /\
 eT n.size (let s:=scells q n.size 0 [.i a,.i b,.i c,.i d,.s k,.s p,.s (Sl.mk l.size 0 0 0)]
 eS h.size 55 [.i 0,.i 0,.i 0,.i 0,.s Sl.nil,.s Sl.nil,.s Sl.nil] (eS m.size 55 [.i a,.i b,.i c,.i d,.s e,.s f,.s g] (j (n.size,0) s))))) /\
 (let n:=l.push (.cells (vals [.i 0,.i 0,.i 0,.i 0,.s Sl.nil,.s Sl.nil,.s Sl.nil]) 55)
 gk n l m.size 5 /\
 gk n l m.size 4 /\
 gk n l m.size 3 /\
 gk n l m.size 2 /\
 gk n l m.size 1 /\
 gk n l m.size 0 /\
 (cS q1f [Sl.v f] [l.size,h.size,m.size] n fun o p=>
 gk p n m.size 3 /\
 gk p n m.size 2 /\
 gk p n m.size 1 /\
 gk p n m.size 0 /\
 let q:=p.push (.cells (vals []) 84)
 gk q p m.size 5 /\
 gk q p m.size 4 /\
 gk q p m.size 3 /\
 gk q p m.size 2 /\
 gk q p m.size 1 /\
 gk q p m.size 0 /\
 eT l.size (let s:=scells q l.size 0 [.i a,.i b,.i c,.i d,.s k,.s o,.s (Sl.mk p.size 0 0 0)]
 eS h.size 55 [.i 0,.i 0,.i 0,.i 0,.s Sl.nil,.s Sl.nil,.s Sl.nil] (eS m.size 55 [.i a,.i b,.i c,.i d,.s e,.s f,.s g] (j (l.size,0) s)))) /\
 (let o:=n.push (.cells (vals []) 84)
 gk o n m.size 5 /\
 gk o n m.size 4 /\
 gk o n m.size 3 /\
 gk o n m.size 2 /\
 gk o n m.size 1 /\
 gk o n m.size 0 /\
 cS q1f [Sl.v f] [l.size,h.size,m.size] o fun p q=>
 gk q o m.size 3 /\
 gk q o m.size 2 /\
 gk q o m.size 1 /\
 gk q o m.size 0 /\
 eT l.size (let s:=scells q l.size 0 [.i a,.i b,.i c,.i d,.s k,.s p,.s (Sl.mk n.size 0 0 0)]
 eS h.size 55 [.i 0,.i 0,.i 0,.i 0,.s Sl.nil,.s Sl.nil,.s Sl.nil] (eS m.size 55 [.i a,.i b,.i c,.i d,.s e,.s f,.s g] (j (l.size,0) s)))))) /\
 (let k:=i.push (.cells (vals []) 84)
 gk k i m.size 5 /\
 gk k i m.size 4 /\
 gk k i m.size 3 /\
 gk k i m.size 2 /\
 gk k i m.size 1 /\
 gk k i m.size 0 /\
 (cS q15 [Sl.v e] [h.size,m.size] k fun l n=>
 gk n k m.size 5 /\
 gk n k m.size 3 /\
 gk n k m.size 2 /\
 gk n k m.size 1 /\
 gk n k m.size 0 /\
 (cS q1f [Sl.v f] [h.size,m.size] n fun o p=>
 gk p n m.size 3 /\
 gk p n m.size 2 /\
 gk p n m.size 1 /\
 gk p n m.size 0 /\
 let q:=p.push (.cells (vals [.i 0,.i 0,.i 0,.i 0,.s Sl.nil,.s Sl.nil,.s Sl.nil]) 55)
 gk q p m.size 5 /\
 gk q p m.size 4 /\
 gk q p m.size 3 /\
 gk q p m.size 2 /\
 gk q p m.size 1 /\
 gk q p m.size 0 /\
 eT p.size (let s:=scells q p.size 0 [.i a,.i b,.i c,.i d,.s l,.s o,.s (Sl.mk i.size 0 0 0)]
 eS h.size 55 [.i 0,.i 0,.i 0,.i 0,.s Sl.nil,.s Sl.nil,.s Sl.nil] (eS m.size 55 [.i a,.i b,.i c,.i d,.s e,.s f,.s g] (j (p.size,0) s)))) /\
 (let o:=n.push (.cells (vals [.i 0,.i 0,.i 0,.i 0,.s Sl.nil,.s Sl.nil,.s Sl.nil]) 55)
 gk o n m.size 5 /\
 gk o n m.size 4 /\
 gk o n m.size 3 /\
 gk o n m.size 2 /\
 gk o n m.size 1 /\
 gk o n m.size 0 /\
 cS q1f [Sl.v f] [n.size,h.size,m.size] o fun p q=>
 gk q o m.size 3 /\
 gk q o m.size 2 /\
 gk q o m.size 1 /\
 gk q o m.size 0 /\
 eT n.size (let s:=scells q n.size 0 [.i a,.i b,.i c,.i d,.s l,.s p,.s (Sl.mk i.size 0 0 0)]
 eS h.size 55 [.i 0,.i 0,.i 0,.i 0,.s Sl.nil,.s Sl.nil,.s Sl.nil] (eS m.size 55 [.i a,.i b,.i c,.i d,.s e,.s f,.s g] (j (n.size,0) s))))) /\
 (let l:=k.push (.cells (vals [.i 0,.i 0,.i 0,.i 0,.s Sl.nil,.s Sl.nil,.s Sl.nil]) 55)
 gk l k m.size 5 /\
 gk l k m.size 4 /\
 gk l k m.size 3 /\
 gk l k m.size 2 /\
 gk l k m.size 1 /\
 gk l k m.size 0 /\
 cS q15 [Sl.v e] [k.size,h.size,m.size] l fun n o=>
 gk o l m.size 5 /\
 gk o l m.size 3 /\
 gk o l m.size 2 /\
 gk o l m.size 1 /\
 gk o l m.size 0 /\
 cS q1f [Sl.v f] [k.size,h.size,m.size] o fun p q=>
 gk q o m.size 3 /\
 gk q o m.size 2 /\
 gk q o m.size 1 /\
 gk q o m.size 0 /\
 eT k.size (let s:=scells q k.size 0 [.i a,.i b,.i c,.i d,.s n,.s p,.s (Sl.mk i.size 0 0 0)]
 eS h.size 55 [.i 0,.i 0,.i 0,.i 0,.s Sl.nil,.s Sl.nil,.s Sl.nil] (eS m.size 55 [.i a,.i b,.i c,.i d,.s e,.s f,.s g] (j (k.size,0) s))))) /\
 (let k:=i.push (.cells (vals [.i 0,.i 0,.i 0,.i 0,.s Sl.nil,.s Sl.nil,.s Sl.nil]) 55)
 gk k i m.size 5 /\
 gk k i m.size 4 /\
 gk k i m.size 3 /\
 gk k i m.size 2 /\
 gk k i m.size 1 /\
 gk k i m.size 0 /\
 (cS q15 [Sl.v e] [i.size,h.size,m.size] k fun l n=>
 gk n k m.size 5 /\
 gk n k m.size 3 /\
 gk n k m.size 2 /\
 gk n k m.size 1 /\
 gk n k m.size 0 /\
 (cS q1f [Sl.v f] [i.size,h.size,m.size] n fun o p=>
 gk p n m.size 3 /\
 gk p n m.size 2 /\
 gk p n m.size 1 /\
 gk p n m.size 0 /\
 let q:=p.push (.cells (vals []) 84)
 gk q p m.size 5 /\
 gk q p m.size 4 /\
 gk q p m.size 3 /\
 gk q p m.size 2 /\
 gk q p m.size 1 /\
 gk q p m.size 0 /\
 eT i.size (let s:=scells q i.size 0 [.i a,.i b,.i c,.i d,.s l,.s o,.s (Sl.mk p.size 0 0 0)]
 eS h.size 55 [.i 0,.i 0,.i 0,.i 0,.s Sl.nil,.s Sl.nil,.s Sl.nil] (eS m.size 55 [.i a,.i b,.i c,.i d,.s e,.s f,.s g] (j (i.size,0) s)))) /\
 (let o:=n.push (.cells (vals []) 84)
 gk o n m.size 5 /\
 gk o n m.size 4 /\
 gk o n m.size 3 /\
 gk o n m.size 2 /\
 gk o n m.size 1 /\
 gk o n m.size 0 /\
 cS q1f [Sl.v f] [i.size,h.size,m.size] o fun p q=>
 gk q o m.size 3 /\
 gk q o m.size 2 /\
 gk q o m.size 1 /\
 gk q o m.size 0 /\
 eT i.size (let s:=scells q i.size 0 [.i a,.i b,.i c,.i d,.s l,.s p,.s (Sl.mk n.size 0 0 0)]
 eS h.size 55 [.i 0,.i 0,.i 0,.i 0,.s Sl.nil,.s Sl.nil,.s Sl.nil] (eS m.size 55 [.i a,.i b,.i c,.i d,.s e,.s f,.s g] (j (i.size,0) s))))) /\
 (let l:=k.push (.cells (vals []) 84)
 gk l k m.size 5 /\
 gk l k m.size 4 /\
 gk l k m.size 3 /\
 gk l k m.size 2 /\
 gk l k m.size 1 /\
 gk l k m.size 0 /\
 cS q15 [Sl.v e] [i.size,h.size,m.size] l fun n o=>
 gk o l m.size 5 /\
 gk o l m.size 3 /\
 gk o l m.size 2 /\
 gk o l m.size 1 /\
 gk o l m.size 0 /\
 cS q1f [Sl.v f] [i.size,h.size,m.size] o fun p q=>
 gk q o m.size 3 /\
 gk q o m.size 2 /\
 gk q o m.size 1 /\
 gk q o m.size 0 /\
 eT i.size (let s:=scells q i.size 0 [.i a,.i b,.i c,.i d,.s n,.s p,.s (Sl.mk k.size 0 0 0)]
 eS h.size 55 [.i 0,.i 0,.i 0,.i 0,.s Sl.nil,.s Sl.nil,.s Sl.nil] (eS m.size 55 [.i a,.i b,.i c,.i d,.s e,.s f,.s g] (j (i.size,0) s)))))))))))) /\
 (∀ k l,j k l ->
 ∃ (n:Int->Mem->Prop) (o:Int->Mem->Nat),
 n 0 l /\
 (∀ p q,n p q ->
 eT m.size (iP (decide (p < g.len)) (eT m.size (rg p g (rI q g.blk (g.off+p.toNat*6) fun s=>
 rI q g.blk (g.off+p.toNat*6+1) fun t=>
 rI q g.blk (g.off+p.toNat*6+2) fun u=>
 rS q g.blk (g.off+p.toNat*6+3) fun v=>
 rS q g.blk (g.off+p.toNat*6+4) fun x=>
 rS q g.blk (g.off+p.toNat*6+5) fun y=>
 let z:=q.push (.cells (vals [.i 0,.i 0,.i 0,.s Sl.nil,.s Sl.nil,.s Sl.nil]) 84)
 eT q.size (let A:=scells z q.size 0 [.i s,.i t,.i u,.s v,.s x,.s y]
 rS A k.1 (k.2+6) fun B=>
 eT q.size (eT q.size (eT q.size (eT q.size (eT q.size (eT q.size (cS q15 [Sl.v v] [q.size,h.size,m.size] A fun C D=>
 gk D A q.size 5 /\
 gk D A q.size 4 /\
 gk D A q.size 2 /\
 gk D A q.size 1 /\
 gk D A q.size 0 /\
 gk D A k.1 (k.2+6) /\
 cS q15 [Sl.v x] [q.size,h.size,m.size] D fun E F=>
 gk F D q.size 5 /\
 gk F D q.size 2 /\
 gk F D q.size 1 /\
 gk F D q.size 0 /\
 gk F D k.1 (k.2+6) /\
 cS q15 [Sl.v y] [q.size,h.size,m.size] F fun G H=>
 gk H F q.size 2 /\
 gk H F q.size 1 /\
 gk H F q.size 0 /\
 gk H F k.1 (k.2+6) /\
 let J:=H.push (.cells (vals [.i s,.i t,.i u,.s C,.s E,.s G]) 84)
 gk J H k.1 (k.2+6) /\
 appC J 84 [.i 0,.i 0,.i 0,.s Sl.nil,.s Sl.nil,.s Sl.nil] 96 B (Sl.mk H.size 0 1 1) fun K L =>
 Sam [q.size,h.size,m.size] J L /\
 wrOk L k.1 (k.2+6) 1 /\
 let M:=scells L k.1 (k.2+6) [.s K]
 Sam [q.size,h.size,m.size] L M /\
 eS h.size 55 [.i 0,.i 0,.i 0,.i 0,.s Sl.nil,.s Sl.nil,.s Sl.nil] (eS m.size 55 [.i a,.i b,.i c,.i d,.s e,.s f,.s g] (n (w64 (p+1)) M/\o (w64 (p+1)) M < o p q)))))))))))) (rI q k.1 k.2 fun s=>
 rI q k.1 (k.2+1) fun t=>
 rI q k.1 (k.2+2) fun u=>
 rI q k.1 (k.2+3) fun v=>
 rS q k.1 (k.2+4) fun x=>
 rS q k.1 (k.2+5) fun y=>
 rS q k.1 (k.2+6) fun z=>
 eT h.size (let A:=scells q h.size 0 [.i s,.i t,.i u,.i v,.s x,.s y,.s z]
 eT h.size (R (.agg #[vi s,vi t,vi u,vi v,Sl.v x,Sl.v y,Sl.v z]) A))))))):cV q5n [.agg #[vi a,vi b,vi c,vi d,Sl.v e,Sl.v f,Sl.v g]] m R:=vcs (dl:=[1,6]) (A1:=[(3,[(4,.I)])]) (A2:=[(2,[(3,.P)])]) (A3:=[(2,[58,57]),(3,[58,57])]) (args:=[.agg [.i a,.i b,.i c,.i d,.s e,.s f,.s g]]) Tryz.func54 h'

theorem qdt (a:Nat × Nat) (h' :
 rI m a.1 (a.2+2) fun b=>
 iP (b != 3) (R (.tuple #[]) m) (rS m a.1 (a.2+2+6) fun c=>
 rS m a.1 (a.2+2+6) fun d=>
 rg (w64 ((d.len:Int) - 1)) c (rI m c.blk (c.off+Int.toNat (w64 ((d.len:Int) - 1))*6) fun e=>
 rI m c.blk (c.off+Int.toNat (w64 ((d.len:Int) - 1))*6+1) fun f=>
 rI m c.blk (c.off+Int.toNat (w64 ((d.len:Int) - 1))*6+2) fun g=>
 rS m c.blk (c.off+Int.toNat (w64 ((d.len:Int) - 1))*6+3) fun h=>
 rS m c.blk (c.off+Int.toNat (w64 ((d.len:Int) - 1))*6+4) fun i=>
 rS m c.blk (c.off+Int.toNat (w64 ((d.len:Int) - 1))*6+5) fun j=>
 let k:=m.push (.cells (vals [.i 0,.i 0,.i 0,.s Sl.nil,.s Sl.nil,.s Sl.nil]) 84)
 gk k m c.blk (c.off+Int.toNat (w64 ((d.len:Int) - 1))*6) /\
 gk k m c.blk (c.off+Int.toNat (w64 ((d.len:Int) - 1))*6+1) /\
 gk k m c.blk (c.off+Int.toNat (w64 ((d.len:Int) - 1))*6+2) /\
 gk k m c.blk (c.off+Int.toNat (w64 ((d.len:Int) - 1))*6+3) /\
 gk k m c.blk (c.off+Int.toNat (w64 ((d.len:Int) - 1))*6+4) /\
 gk k m c.blk (c.off+Int.toNat (w64 ((d.len:Int) - 1))*6+5) /\
 gk k m a.1 (a.2+2+6) /\
 gk k m a.1 (a.2+2+6) /\
 eT m.size (let l:=scells k m.size 0 [.i e,.i f,.i g,.s h,.s i,.s j]
 rS l a.1 (a.2+1) fun n=>
 eT m.size (rg e n (rS l n.blk (n.off+e.toNat*5+4) fun o=>
 eT m.size (rg f o (rI l o.blk (o.off+f.toNat*6) fun p=>
 rI l o.blk (o.off+f.toNat*6+1) fun q=>
 rI l o.blk (o.off+f.toNat*6+2) fun s=>
 rI l o.blk (o.off+f.toNat*6+3) fun t=>
 rS l o.blk (o.off+f.toNat*6+4) fun u=>
 rS l o.blk (o.off+f.toNat*6+5) fun v=>
 let x:=l.push (.cells (vals [.i 0,.i 0,.i 0,.i 0,.s Sl.nil,.s Sl.nil]) 86)
 gk x l o.blk (o.off+f.toNat*6) /\
 gk x l o.blk (o.off+f.toNat*6+1) /\
 gk x l o.blk (o.off+f.toNat*6+2) /\
 gk x l o.blk (o.off+f.toNat*6+3) /\
 gk x l o.blk (o.off+f.toNat*6+4) /\
 gk x l o.blk (o.off+f.toNat*6+5) /\
 gk x l m.size 1 /\
 gk x l n.blk (n.off+e.toNat*5+4) /\
 gk x l m.size 0 /\
 gk x l a.1 (a.2+1) /\
 eT l.size (let y:=scells x l.size 0 [.i p,.i q,.i s,.i t,.s u,.s v]
 eT l.size (cB qc0 [vi p] [l.size,m.size] y fun z A=>
 iP z (rI A a.1 (a.2+2+2) fun B=>
 rI A a.1 (a.2+2+3) fun C=>
 iP (B == C) (wrOk A a.1 (a.2+2) 1 /\
 let D:=scells A a.1 (a.2+2) [.i 1]
 Sam [l.size,m.size] A D /\
 R (.tuple #[]) D) (eT m.size (rS A a.1 a.2 fun D=>
 rS A a.1 (a.2+1) fun E=>
 eT l.size (cS q6v [.agg #[Sl.v D,Sl.v E],.agg #[vi p,vi q,vi s,vi t,Sl.v u,Sl.v v]] [l.size,m.size] A fun F G=>
 gk G A m.size 0 /\
 gk G A m.size 1 /\
 gk G A m.size 2 /\
 gk G A m.size 3 /\
 gk G A m.size 4 /\
 gk G A m.size 5 /\
 cS q69 [.agg #[vi e,vi f,vi g,Sl.v h,Sl.v i,Sl.v j],Sl.v F] [l.size,m.size] G fun H J=>
 eT m.size (eT l.size (cB q45 [vp a.1 a.2,.agg #[vi e,vi f,vi g,Sl.v h,Sl.v i,Sl.v j],.agg #[vi p,vi q,vi s,vi t,Sl.v u,Sl.v v],Sl.v H] [l.size,m.size] J fun K L=>
 iP (!K) (wrOk L a.1 (a.2+2) 1 /\
 let M:=scells L a.1 (a.2+2) [.i 2]
 Sam [l.size,m.size] L M /\
 R (.tuple #[]) M) (eT m.size (∃ M:List Ce,M.length=Nat.min H.len i.len*1/\rowIs L H.blk H.off M/\wrOk L i.blk i.off M.length /\
 let N:=scells L i.blk i.off M
 Sam [l.size,m.size] L N /\
 eT m.size (eT l.size (cV q40 [vp a.1 a.2,.agg #[vi e,vi f,vi g,Sl.v h,Sl.v i,Sl.v j],.agg #[vi p,vi q,vi s,vi t,Sl.v u,Sl.v v]] N fun O P=>
 Sam [l.size,m.size] N P /\
 R (.tuple #[]) P)))))))))) (eT m.size (rS A a.1 a.2 fun B=>
 rS A a.1 (a.2+1) fun C=>
 eT l.size (cS q6v [.agg #[Sl.v B,Sl.v C],.agg #[vi p,vi q,vi s,vi t,Sl.v u,Sl.v v]] [l.size,m.size] A fun D E=>
 gk E A m.size 0 /\
 gk E A m.size 1 /\
 gk E A m.size 2 /\
 gk E A m.size 3 /\
 gk E A m.size 4 /\
 gk E A m.size 5 /\
 cS q69 [.agg #[vi e,vi f,vi g,Sl.v h,Sl.v i,Sl.v j],Sl.v D] [l.size,m.size] E fun F G=>
 eT m.size (eT l.size (cB q45 [vp a.1 a.2,.agg #[vi e,vi f,vi g,Sl.v h,Sl.v i,Sl.v j],.agg #[vi p,vi q,vi s,vi t,Sl.v u,Sl.v v],Sl.v F] [l.size,m.size] G fun H J=>
 iP (!H) (wrOk J a.1 (a.2+2) 1 /\
 let K:=scells J a.1 (a.2+2) [.i 2]
 Sam [l.size,m.size] J K /\
 R (.tuple #[]) K) (eT m.size (∃ K:List Ce,K.length=Nat.min F.len i.len*1/\rowIs J F.blk F.off K/\wrOk J i.blk i.off K.length /\
 let L:=scells J i.blk i.off K
 Sam [l.size,m.size] J L /\
 eT m.size (eT l.size (cV q40 [vp a.1 a.2,.agg #[vi e,vi f,vi g,Sl.v h,Sl.v i,Sl.v j],.agg #[vi p,vi q,vi s,vi t,Sl.v u,Sl.v v]] L fun M N=>
 Sam [l.size,m.size] L N /\
 R (.tuple #[]) N))))))))))))))))))):cV q67 [vp a.1 a.2] m R:=vcs (dl:=[1,2,3,5]) (A1:=[]) (A2:=[]) (A3:=[]) (args:=[.c (.p a.1 a.2)]) Tryz.func55 h'

theorem qkp (a:Sl) (h' :
 0<=(a.len:Int)/\(a.len:Int)<=(a.len:Int)/\((8:Nat):Int)*(a.len:Int)<=281474976710656/\(a.len:Int)<=9223372036854775807 /\
 let b:=m.push (.cells (vals (zrow [.i 0] (Int.toNat (a.len:Int)))) 3)
 ∃ (c:Int->Mem->Prop) (d:Int->Mem->Nat),
 c 0 b /\
 (∀ e f,c e f ->
 iP (decide (e < a.len)) (0<=e/\e < a.len /\
 ∃ g:Int,gcell f a.blk (a.off+e.toNat*1)=some (vi g) /\
 0<=e/\e < ((Sl.mk m.size 0 (Int.toNat (a.len:Int)) (Int.toNat (a.len:Int))).len:Int) /\
 wrOk f ((Sl.mk m.size 0 (Int.toNat (a.len:Int)) (Int.toNat (a.len:Int))).blk) ((Sl.mk m.size 0 (Int.toNat (a.len:Int)) (Int.toNat (a.len:Int))).off+e.toNat*1) 1 /\
 let h:=scells f ((Sl.mk m.size 0 (Int.toNat (a.len:Int)) (Int.toNat (a.len:Int))).blk) ((Sl.mk m.size 0 (Int.toNat (a.len:Int)) (Int.toNat (a.len:Int))).off+e.toNat*1) [.i g]
 c (w64 (e+1)) h/\d (w64 (e+1)) h < d e f) (R (Sl.v (Sl.mk m.size 0 (Int.toNat (a.len:Int)) (Int.toNat (a.len:Int)))) f))):cV q23 [Sl.v a] m R:=vcs (dl:=[]) (A1:=[(3,[(4,.I)])]) (A2:=[]) (A3:=[]) (args:=[.c (.s a)]) Tryz.func56 h'

theorem qid (a:Sl) (h' :
 0<=(a.len:Int)/\(a.len:Int)<=(a.len:Int)/\((40:Nat):Int)*(a.len:Int)<=281474976710656/\(a.len:Int)<=9223372036854775807 /\
 let b:=m.push (.cells (vals (zrow [.i 0,.i 0,.s Sl.nil] (Int.toNat (a.len:Int)))) 149)
 ∃ (c:Int->Mem->Prop) (d:Int->Mem->Nat),
 c 0 b /\
 (∀ e f,c e f ->
 iP (decide (e < a.len)) (0<=e/\e < a.len /\
 ∃ g:Int,gcell f a.blk (a.off+e.toNat*3)=some (vi g) /\
 ∃ h:Int,gcell f a.blk (a.off+e.toNat*3+1)=some (vi h) /\
 ∃ i:Sl,gcell f a.blk (a.off+e.toNat*3+2)=some (Sl.v i) /\
 cV qbu [.agg #[vi g,vi h,Sl.v i]] f fun j k=>
 ∃ l:Int,∃ n:Int,∃ o:Sl,j=.agg #[vi l,vi n,Sl.v o] /\
 0<=e/\e < ((Sl.mk m.size 0 (Int.toNat (a.len:Int)) (Int.toNat (a.len:Int))).len:Int) /\
 wrOk k ((Sl.mk m.size 0 (Int.toNat (a.len:Int)) (Int.toNat (a.len:Int))).blk) ((Sl.mk m.size 0 (Int.toNat (a.len:Int)) (Int.toNat (a.len:Int))).off+e.toNat*3) 3 /\
 let p:=scells k ((Sl.mk m.size 0 (Int.toNat (a.len:Int)) (Int.toNat (a.len:Int))).blk) ((Sl.mk m.size 0 (Int.toNat (a.len:Int)) (Int.toNat (a.len:Int))).off+e.toNat*3) [.i l,.i n,.s o]
 c (w64 (e+1)) p/\d (w64 (e+1)) p < d e f) (R (Sl.v (Sl.mk m.size 0 (Int.toNat (a.len:Int)) (Int.toNat (a.len:Int)))) f))):cV qaw [Sl.v a] m R:=vcs (dl:=[]) (A1:=[(3,[(4,.I)])]) (A2:=[]) (A3:=[]) (args:=[.c (.s a)]) Tryz.func57 h'

end
section
set_option linter.unusedVariables false
set_option maxRecDepth 100000
variable {m:Mem} {R:Value->Mem->Prop}
theorem qhv (a:Sl) (h' :
 0<=(a.len:Int)/\(a.len:Int)<=(a.len:Int)/\((96:Nat):Int)*(a.len:Int)<=281474976710656/\(a.len:Int)<=9223372036854775807 /\
 let b:=m.push (.cells (vals (zrow [.i 0,.i 0,.i 0,.s Sl.nil,.s Sl.nil,.s Sl.nil] (Int.toNat (a.len:Int)))) 84)
 ∃ (c:Int->Mem->Prop) (d:Int->Mem->Nat),
 c 0 b /\
 (∀ e f,c e f ->
 iP (decide (e < a.len)) (0<=e/\e < a.len /\
 ∃ g:Int,gcell f a.blk (a.off+e.toNat*6)=some (vi g) /\
 ∃ h:Int,gcell f a.blk (a.off+e.toNat*6+1)=some (vi h) /\
 ∃ i:Int,gcell f a.blk (a.off+e.toNat*6+2)=some (vi i) /\
 ∃ j:Sl,gcell f a.blk (a.off+e.toNat*6+3)=some (Sl.v j) /\
 ∃ k:Sl,gcell f a.blk (a.off+e.toNat*6+4)=some (Sl.v k) /\
 ∃ l:Sl,gcell f a.blk (a.off+e.toNat*6+5)=some (Sl.v l) /\
 cV qa7 [.agg #[vi g,vi h,vi i,Sl.v j,Sl.v k,Sl.v l]] f fun n o=>
 ∃ p:Int,∃ q:Int,∃ s:Int,∃ t:Sl,∃ u:Sl,∃ v:Sl,n=.agg #[vi p,vi q,vi s,Sl.v t,Sl.v u,Sl.v v] /\
 0<=e/\e < ((Sl.mk m.size 0 (Int.toNat (a.len:Int)) (Int.toNat (a.len:Int))).len:Int) /\
 wrOk o ((Sl.mk m.size 0 (Int.toNat (a.len:Int)) (Int.toNat (a.len:Int))).blk) ((Sl.mk m.size 0 (Int.toNat (a.len:Int)) (Int.toNat (a.len:Int))).off+e.toNat*6) 6 /\
 let x:=scells o ((Sl.mk m.size 0 (Int.toNat (a.len:Int)) (Int.toNat (a.len:Int))).blk) ((Sl.mk m.size 0 (Int.toNat (a.len:Int)) (Int.toNat (a.len:Int))).off+e.toNat*6) [.i p,.i q,.i s,.s t,.s u,.s v]
 c (w64 (e+1)) x/\d (w64 (e+1)) x < d e f) (R (Sl.v (Sl.mk m.size 0 (Int.toNat (a.len:Int)) (Int.toNat (a.len:Int)))) f))):cV q93 [Sl.v a] m R:=vcs (dl:=[]) (A1:=[(3,[(4,.I)])]) (A2:=[]) (A3:=[]) (args:=[.c (.s a)]) Tryz.func58 h'

theorem qf8 (a b:Sl) (c d e f:Int) (g h i:Sl) (h' :
 let j:=m.push (.cells (vals [.s a,.s b]) 35)
 let k:=j.push (.cells (vals [.i c,.i d,.i e,.i f,.s g,.s h,.s i]) 55)
 eT m.size (cB q76 [.agg #[Sl.v a,Sl.v b]] [j.size,m.size] k fun l n=>
 iP l (eT m.size (eT j.size (cB q7j [.agg #[Sl.v a,Sl.v b],.agg #[vi c,vi d,vi e,vi f,Sl.v g,Sl.v h,Sl.v i]] [j.size,m.size] n fun o p=>
 R (vb o) p))) (R (vb false) n))):cV q7o [.agg #[Sl.v a,Sl.v b],.agg #[vi c,vi d,vi e,vi f,Sl.v g,Sl.v h,Sl.v i]] m R:=vcs (dl:=[]) (A1:=[]) (A2:=[]) (A3:=[]) (args:=[.agg [.s a,.s b],.agg [.i c,.i d,.i e,.i f,.s g,.s h,.s i]]) Tryz.func59 h'

theorem qfs (a b c d:Int) (e f g:Sl) (h' :
 let h:=m.push (.cells (vals [.i a,.i b,.i c,.i d,.s e,.s f,.s g]) 55)
 let i:=h.push (.cells (vals [.i 0,.i 0,.i 0,.i 0,.s Sl.nil,.s Sl.nil,.s Sl.nil]) 55)
 eT m.size (eT m.size (eT m.size (cS q11 [Sl.v e] [h.size,m.size] i fun j k=>
 gk k i m.size 6 /\
 gk k i m.size 5 /\
 cS q8d [Sl.v f] [h.size,m.size] k fun l n=>
 gk n k m.size 6 /\
 cS q2r [Sl.v g] [h.size,m.size] n fun o p=>
 eT m.size (let q:=scells p m.size 4 [.s j]
 eT m.size (let s:=scells q m.size 5 [.s l]
 eT m.size (let t:=scells s m.size 6 [.s o]
 eT m.size (∃ (u:Int->Mem->Prop) (v:Int->Mem->Nat),
 u 0 t /\
 (∀ x y,u x y ->
 iP (decide (x < o.len)) (rg x o (rI y o.blk (o.off+x.toNat*6) fun z=>
 rI y o.blk (o.off+x.toNat*6+1) fun A=>
 rI y o.blk (o.off+x.toNat*6+2) fun B=>
 rS y o.blk (o.off+x.toNat*6+3) fun C=>
 rS y o.blk (o.off+x.toNat*6+4) fun D=>
 rS y o.blk (o.off+x.toNat*6+5) fun E=>
 let F:=y.push (.cells (vals [.i 0,.i 0,.i 0,.s Sl.nil,.s Sl.nil,.s Sl.nil]) 84)
 eT y.size (let G:=scells F y.size 0 [.i z,.i A,.i B,.s C,.s D,.s E]
 eT m.size (eT m.size (eT m.size (eT y.size (eT y.size (eT y.size (cS q11 [Sl.v C] [y.size,m.size,h.size] G fun H J=>
 gk J G y.size 5 /\
 gk J G y.size 4 /\
 gk J G m.size 6 /\
 gk J G m.size 6 /\
 gk J G m.size 6 /\
 cS q11 [Sl.v D] [y.size,m.size,h.size] J fun K L=>
 gk L J y.size 5 /\
 gk L J m.size 6 /\
 gk L J m.size 6 /\
 gk L J m.size 6 /\
 cS q11 [Sl.v E] [y.size,m.size,h.size] L fun M N=>
 gk N L m.size 6 /\
 gk N L m.size 6 /\
 gk N L m.size 6 /\
 rg x o (wrOk N o.blk (o.off+x.toNat*6+3) 1 /\
 let O:=scells N o.blk (o.off+x.toNat*6+3) [.s H]
 Sam [y.size,m.size,h.size] N O /\
 gk O N m.size 6 /\
 gk O N m.size 6 /\
 rg x o (wrOk O o.blk (o.off+x.toNat*6+4) 1 /\
 let P:=scells O o.blk (o.off+x.toNat*6+4) [.s K]
 Sam [y.size,m.size,h.size] O P /\
 gk P O m.size 6 /\
 rg x o (wrOk P o.blk (o.off+x.toNat*6+5) 1 /\
 let Q:=scells P o.blk (o.off+x.toNat*6+5) [.s M]
 Sam [y.size,m.size,h.size] P Q /\
 eS m.size 55 [.i a,.i b,.i c,.i d,.s j,.s l,.s o] (eS h.size 55 [.i 0,.i 0,.i 0,.i 0,.s Sl.nil,.s Sl.nil,.s Sl.nil] (u (w64 (x+1)) Q/\v (w64 (x+1)) Q < v x y)))))))))))))) (eT m.size (eT h.size (let z:=scells y h.size 0 [.i a,.i b,.i c,.i d,.s j,.s l,.s o]
 eT h.size (R (.agg #[vi a,vi b,vi c,vi d,Sl.v j,Sl.v l,Sl.v o]) z))))))))))))):cV q3m [.agg #[vi a,vi b,vi c,vi d,Sl.v e,Sl.v f,Sl.v g]] m R:=vcs (dl:=[1,5]) (A1:=[(3,[(20,.I)])]) (A2:=[]) (A3:=[(3,[52,53])]) (args:=[.agg [.i a,.i b,.i c,.i d,.s e,.s f,.s g]]) Tryz.func60 h'

theorem qjv (a b:Sl) (h' :
 iP ((a.len:Int) != (b.len:Int)) (R (vb false) m) (∃ (c:Int->Mem->Prop) (d:Int->Mem->Nat),
 c 0 m /\
 (∀ e f,c e f ->
 iP (decide (e < a.len)) (0<=e/\e < a.len /\
 ∃ g:Int,gcell f a.blk (a.off+e.toNat*3)=some (vi g) /\
 ∃ h:Int,gcell f a.blk (a.off+e.toNat*3+1)=some (vi h) /\
 ∃ i:Sl,gcell f a.blk (a.off+e.toNat*3+2)=some (Sl.v i) /\
 0<=e/\e < b.len /\
 ∃ j:Int,gcell f b.blk (b.off+e.toNat*3)=some (vi j) /\
 ∃ k:Int,gcell f b.blk (b.off+e.toNat*3+1)=some (vi k) /\
 ∃ l:Sl,gcell f b.blk (b.off+e.toNat*3+2)=some (Sl.v l) /\
 cV qbx [.agg #[vi g,vi h,Sl.v i],.agg #[vi j,vi k,Sl.v l]] f fun n o=>
 ∃ p:Bool,n=vb p /\
 iP (!p) (R (vb false) o) (c (w64 (e+1)) o/\d (w64 (e+1)) o < d e f)) (R (vb true) f)))):cV qa6 [Sl.v a,Sl.v b] m R:=vcs (dl:=[6]) (A1:=[(4,[(5,.I)])]) (A2:=[]) (A3:=[]) (args:=[.c (.s a),.c (.s b)]) Tryz.func61 h'

theorem qi0 (a b:Sl) (h' :
 iP ((a.len:Int) != (b.len:Int)) (R (vb false) m) (∃ (c:Int->Mem->Prop) (d:Int->Mem->Nat),
 c 0 m /\
 (∀ e f,c e f ->
 iP (decide (e < a.len)) (0<=e/\e < a.len /\
 ∃ g:Int,gcell f a.blk (a.off+e.toNat*6)=some (vi g) /\
 ∃ h:Int,gcell f a.blk (a.off+e.toNat*6+1)=some (vi h) /\
 ∃ i:Int,gcell f a.blk (a.off+e.toNat*6+2)=some (vi i) /\
 ∃ j:Sl,gcell f a.blk (a.off+e.toNat*6+3)=some (Sl.v j) /\
 ∃ k:Sl,gcell f a.blk (a.off+e.toNat*6+4)=some (Sl.v k) /\
 ∃ l:Sl,gcell f a.blk (a.off+e.toNat*6+5)=some (Sl.v l) /\
 0<=e/\e < b.len /\
 ∃ n:Int,gcell f b.blk (b.off+e.toNat*6)=some (vi n) /\
 ∃ o:Int,gcell f b.blk (b.off+e.toNat*6+1)=some (vi o) /\
 ∃ p:Int,gcell f b.blk (b.off+e.toNat*6+2)=some (vi p) /\
 ∃ q:Sl,gcell f b.blk (b.off+e.toNat*6+3)=some (Sl.v q) /\
 ∃ s:Sl,gcell f b.blk (b.off+e.toNat*6+4)=some (Sl.v s) /\
 ∃ t:Sl,gcell f b.blk (b.off+e.toNat*6+5)=some (Sl.v t) /\
 cV qap [.agg #[vi g,vi h,vi i,Sl.v j,Sl.v k,Sl.v l],.agg #[vi n,vi o,vi p,Sl.v q,Sl.v s,Sl.v t]] f fun u v=>
 ∃ x:Bool,u=vb x /\
 iP (!x) (R (vb false) v) (c (w64 (e+1)) v/\d (w64 (e+1)) v < d e f)) (R (vb true) f)))):cV q9b [Sl.v a,Sl.v b] m R:=vcs (dl:=[6]) (A1:=[(4,[(5,.I)])]) (A2:=[]) (A3:=[]) (args:=[.c (.s a),.c (.s b)]) Tryz.func62 h'

theorem qgi (a:Sl) (b:Int) (h' :
 ∃ (c:Int->Int->Mem->Prop) (d:Int->Int->Mem->Nat),
 c b 0 m /\
 (∀ e f g,c e f g ->
 iP (decide (f < a.len)) (0<=f/\f < a.len /\
 wrOk g a.blk (a.off+f.toNat*3) 1 /\
 let h:=scells g a.blk (a.off+f.toNat*3) [.i e]
 0<=f/\f < a.len /\
 wrOk h a.blk (a.off+f.toNat*3+1) 1 /\
 let i:=scells h a.blk (a.off+f.toNat*3+1) [.i (w64 (e+1))]
 0<=f/\f < a.len /\
 ∃ j:Sl,gcell i a.blk (a.off+f.toNat*3+2)=some (Sl.v j) /\
 cV q1t [Sl.v j,vi (w64 ((w64 (e+1))+1))] i fun k l=>
 ∃ n:Int,k=vi n /\
 c n (w64 (f+1)) l/\d n (w64 (f+1)) l < d e f g) (R (vi e) g))):cV q83 [Sl.v a,vi b] m R:=vcs (dl:=[]) (A1:=[(2,[(1,.I),(5,.I)])]) (A2:=[]) (A3:=[]) (args:=[.c (.s a),.c (.i b)]) Tryz.func63 h'

theorem qfb (a:Sl) (b:Int) (h' :
 ∃ (c:Int->Int->Mem->Prop) (d:Int->Int->Mem->Nat),
 c b 0 m /\
 (∀ e f g,c e f g ->
 iP (decide (f < a.len)) (0<=f/\f < a.len /\
 wrOk g a.blk (a.off+f.toNat*6) 1 /\
 let h:=scells g a.blk (a.off+f.toNat*6) [.i e]
 0<=f/\f < a.len /\
 wrOk h a.blk (a.off+f.toNat*6+1) 1 /\
 let i:=scells h a.blk (a.off+f.toNat*6+1) [.i (w64 (e+1))]
 0<=f/\f < a.len /\
 wrOk i a.blk (a.off+f.toNat*6+2) 1 /\
 let j:=scells i a.blk (a.off+f.toNat*6+2) [.i (w64 ((w64 (e+1))+1))]
 0<=f/\f < a.len /\
 ∃ k:Sl,gcell j a.blk (a.off+f.toNat*6+3)=some (Sl.v k) /\
 cV q1t [Sl.v k,vi (w64 ((w64 ((w64 (e+1))+1))+1))] j fun l n=>
 ∃ o:Int,l=vi o /\
 0<=f/\f < a.len /\
 ∃ p:Sl,gcell n a.blk (a.off+f.toNat*6+4)=some (Sl.v p) /\
 cV q1t [Sl.v p,vi o] n fun q s=>
 ∃ t:Int,q=vi t /\
 0<=f/\f < a.len /\
 ∃ u:Sl,gcell s a.blk (a.off+f.toNat*6+5)=some (Sl.v u) /\
 cV q1t [Sl.v u,vi t] s fun v x=>
 ∃ y:Int,v=vi y /\
 c y (w64 (f+1)) x/\d y (w64 (f+1)) x < d e f g) (R (vi e) g))):cV q7k [Sl.v a,vi b] m R:=vcs (dl:=[]) (A1:=[(2,[(1,.I),(5,.I)])]) (A2:=[]) (A3:=[]) (args:=[.c (.s a),.c (.i b)]) Tryz.func64 h'

theorem qfx (a:Sl) (b:Int) (h' :
 ∃ (c:Int->Int->Mem->Prop) (d:Int->Int->Mem->Nat),
 c b 0 m /\
 (∀ e f g,c e f g ->
 iP (decide (f < a.len)) (0<=f/\f < a.len /\
 ∃ h:Int,gcell g a.blk (a.off+f.toNat*3)=some (vi h) /\
 iP (h != e) (R (vi (-1)) g) (0<=f/\f < a.len /\
 ∃ i:Int,gcell g a.blk (a.off+f.toNat*3+1)=some (vi i) /\
 iP (i != (w64 (e+1))) (R (vi (-1)) g) (0<=f/\f < a.len /\
 ∃ j:Sl,gcell g a.blk (a.off+f.toNat*3+2)=some (Sl.v j) /\
 cV q3g [Sl.v j,vi (w64 ((w64 (e+1))+1))] g fun k l=>
 ∃ n:Int,k=vi n /\
 iP (decide (n < 0)) (R (vi (-1)) l) (c n (w64 (f+1)) l/\d n (w64 (f+1)) l < d e f g)))) (R (vi e) g))):cV q84 [Sl.v a,vi b] m R:=vcs (dl:=[]) (A1:=[(2,[(1,.I),(5,.I)])]) (A2:=[]) (A3:=[]) (args:=[.c (.s a),.c (.i b)]) Tryz.func65 h'

theorem qfk (a:Sl) (b:Int) (h' :
 ∃ (c:Int->Int->Mem->Prop) (d:Int->Int->Mem->Nat),
 c b 0 m /\
 (∀ e f g,c e f g ->
 iP (decide (f < a.len)) (0<=f/\f < a.len /\
 ∃ h:Int,gcell g a.blk (a.off+f.toNat*6)=some (vi h) /\
 iP (h != e) (R (vi (-1)) g) (0<=f/\f < a.len /\
 ∃ i:Int,gcell g a.blk (a.off+f.toNat*6+1)=some (vi i) /\
 iP (i != (w64 (e+1))) (R (vi (-1)) g) (0<=f/\f < a.len /\
 ∃ j:Int,gcell g a.blk (a.off+f.toNat*6+2)=some (vi j) /\
 iP (j != (w64 ((w64 (e+1))+1))) (R (vi (-1)) g) (0<=f/\f < a.len /\
 ∃ k:Sl,gcell g a.blk (a.off+f.toNat*6+3)=some (Sl.v k) /\
 cV q3g [Sl.v k,vi (w64 ((w64 ((w64 (e+1))+1))+1))] g fun l n=>
 ∃ o:Int,l=vi o /\
 iP (decide (o < 0)) (R (vi (-1)) n) (0<=f/\f < a.len /\
 ∃ p:Sl,gcell n a.blk (a.off+f.toNat*6+4)=some (Sl.v p) /\
 cV q3g [Sl.v p,vi o] n fun q s=>
 ∃ t:Int,q=vi t /\
 iP (decide (t < 0)) (R (vi (-1)) s) (0<=f/\f < a.len /\
 ∃ u:Sl,gcell s a.blk (a.off+f.toNat*6+5)=some (Sl.v u) /\
 cV q3g [Sl.v u,vi t] s fun v x=>
 ∃ y:Int,v=vi y /\
 iP (decide (y < 0)) (R (vi (-1)) x) (c y (w64 (f+1)) x/\d y (w64 (f+1)) x < d e f g))))))) (R (vi e) g))):cV q7d [Sl.v a,vi b] m R:=vcs (dl:=[]) (A1:=[(2,[(1,.I),(5,.I)])]) (A2:=[]) (A3:=[]) (args:=[.c (.s a),.c (.i b)]) Tryz.func66 h'

theorem qeq (a:Nat × Nat) (b:Int) (h' :
 ∃ (c:Int->Mem->Prop) (d:Int->Mem->Nat),
 c 0 m /\
 (∀ e f,c e f ->
 iP (decide (e < b)) (∃ g:Int,gcell f a.1 (a.2+2)=some (vi g) /\
 iP (g == 3) (cV q67 [vp a.1 a.2] f fun h i=>
 c (w64 (e+1)) i/\d (w64 (e+1)) i < d e f) (R (vi e) f)) (R (vi e) f))):cV q6t [vp a.1 a.2,vi b] m R:=vcs (dl:=[]) (A1:=[(2,[(5,.I)])]) (A2:=[]) (A3:=[]) (args:=[.c (.p a.1 a.2),.c (.i b)]) Tryz.func67 h'

theorem qkz (a b:Int) (c:Sl) (d:Int) (h' :
 let e:=m.push (.cells (vals [.i a,.i b,.s c]) 109)
 eT m.size (cI qc6 [Sl.v c,vi d] [m.size] e fun f g=>
 iP (decide (f < 0)) (R (vi (-1)) g) (R (vi f) g))):cV qbv [.agg #[vi a,vi b,Sl.v c],vi d] m R:=vcs (dl:=[]) (A1:=[]) (A2:=[]) (A3:=[]) (args:=[.agg [.i a,.i b,.s c],.c (.i d)]) Tryz.func68 h'

theorem qlu (a b:Sl) (c d:Int) (e:Sl) (f:Int) (h' :
 let g:=m.push (.cells (vals [.s a,.s b,.i c,.i d,.s e]) 113)
 eT m.size (cI q25 [Sl.v a,vi f] [m.size] g fun h i=>
 iP (decide (h < 0)) (R (vi (-1)) i) (eT m.size (cI q25 [Sl.v b,vi h] [m.size] i fun j k=>
 iP (decide (j < 0)) (R (vi (-1)) k) (eT m.size (cI q99 [Sl.v e,vi j] [m.size] k fun l n=>
 iP (decide (l < 0)) (R (vi (-1)) n) (R (vi l) n))))))):cV qc4 [.agg #[Sl.v a,Sl.v b,vi c,vi d,Sl.v e],vi f] m R:=vcs (dl:=[]) (A1:=[]) (A2:=[]) (A3:=[]) (args:=[.agg [.s a,.s b,.i c,.i d,.s e],.c (.i f)]) Tryz.func69 h'

theorem qh1 (a b:Sl) (h' :
 let c:=m.push (.cells (vals [.s a,.s b]) 117)
 eT m.size (cB q74 [Sl.v a] [m.size] c fun d e=>
 iP (!d) (R (vb false) e) (eT m.size (cB q0d [vi (b.len:Int),vi 1,vi 4] [m.size] e fun f g=>
 iP (!f) (R (vb false) g) (∃ (h:Int->Mem->Prop) (i:Int->Mem->Nat),
 h 0 g /\
 (∀ j k,h j k ->
 eT m.size (iP (decide (j < b.len)) (eT m.size (rg j b (rS k b.blk (b.off+j.toNat*5) fun l=>
 rI k b.blk (b.off+j.toNat*5+1) fun n=>
 rI k b.blk (b.off+j.toNat*5+2) fun o=>
 rI k b.blk (b.off+j.toNat*5+3) fun p=>
 rS k b.blk (b.off+j.toNat*5+4) fun q=>
 let s:=k.push (.cells (vals [.s Sl.nil,.i 0,.i 0,.i 0,.s Sl.nil]) 176)
 eT k.size (let t:=scells s k.size 0 [.s l,.i n,.i o,.i p,.s q]
 eT k.size (iP (decide ((l.len:Int) > 3)) (R (vb false) t) (eT m.size (eT k.size (cB q6e [Sl.v a,Sl.v l] [k.size,m.size] t fun u v=>
 iP (!u) (R (vb false) v) (eT k.size (eT m.size (cB q0d [vi n,vi 0,vi (a.len:Int)] [k.size,m.size] v fun x y=>
 iP (!x) (R (vb false) y) (eS m.size 117 [.s a,.s b] (h (w64 (j+1)) y/\i (w64 (j+1)) y < i j k))))))))))))) (eT m.size (rg 0 b (rS k b.blk (b.off+Int.toNat 0*5) fun l=>
 iP ((l.len:Int) == 0) (eT m.size (rg 0 b (rI k b.blk (b.off+Int.toNat 0*5+1) fun n=>
 R (vb (n == 0)) k))) (R (vb false) k))))))))))):cV q8h [.agg #[Sl.v a,Sl.v b]] m R:=vcs (dl:=[]) (A1:=[(4,[(3,.I)])]) (A2:=[]) (A3:=[(4,[65])]) (args:=[.agg [.s a,.s b]]) Tryz.func70 h'

theorem qel (a b:Sl) (h' :
 let c:=m.push (.cells (vals [.s a,.s b]) 35)
 let d:=c.push (.cells (vals [.s Sl.nil,.s Sl.nil]) 117)
 eT m.size (let e:=d.push (.cells (vals []) 176)
 let f:=e.push (.cells (vals [.s Sl.nil,.s Sl.nil]) 117)
 eT e.size (let g:=scells f e.size 0 [.s a,.s (Sl.mk d.size 0 0 0)]
 ∃ (h:Int->Mem->Prop) (i:Int->Mem->Nat),
 h 0 g /\
 (∀ j k,h j k ->
 eT m.size (iP (decide (j < b.len)) (rS k e.size 1 fun l=>
 eT m.size (rg j b (rS k b.blk (b.off+j.toNat*5) fun n=>
 eT m.size (rg j b (rI k b.blk (b.off+j.toNat*5+2) fun o=>
 let p:=k.push (.cells (vals [.s n,.i o,.i 0,.i 0,.s Sl.nil]) 176)
 gk p k e.size 1 /\
 appC p 176 [.s Sl.nil,.i 0,.i 0,.i 0,.s Sl.nil] 72 l (Sl.mk k.size 0 1 1) fun q s =>
 Sam [c.size,m.size] p s /\
 wrOk s e.size 1 1 /\
 let t:=scells s e.size 1 [.s q]
 Sam [c.size,m.size] s t /\
 eS c.size 117 [.s Sl.nil,.s Sl.nil] (eS m.size 35 [.s a,.s b] (h (w64 (j+1)) t/\i (w64 (j+1)) t < i j k))))))) (rS k e.size 0 fun l=>
 rS k e.size 1 fun n=>
 eT c.size (let o:=scells k c.size 0 [.s l,.s n]
 eT c.size (R (.agg #[Sl.v l,Sl.v n]) o)))))))):cV q6m [.agg #[Sl.v a,Sl.v b]] m R:=vcs (dl:=[5]) (A1:=[(3,[(4,.I)])]) (A2:=[]) (A3:=[(3,[37,36])]) (args:=[.agg [.s a,.s b]]) Tryz.func71 h'

theorem qgw (a b c d:Sl) (e f:Int) (g:Sl) (h' :
 let h:=m.push (.cells (vals [.s a,.s b]) 35)
 let i:=h.push (.cells (vals [.s c,.s d,.i e,.i f,.s g]) 89)
 eT h.size (eT h.size (eT h.size (cB q8e [Sl.v c,Sl.v d] [h.size,m.size] i fun j k=>
 iP (!j) (R (vb false) k) (eT h.size (eT h.size (cB q0d [vi f,vi (if (c.len:Int) > 1 then (c.len:Int) else 1),vi 2000] [h.size,m.size] k fun l n=>
 iP (!l) (R (vb false) n) (cB q0d [vi (g.len:Int),vi 1,vi 2000] [h.size,m.size] n fun o p=>
 iP (!o) (R (vb false) p) (∃ (q:Int->Mem->Prop) (s:Int->Mem->Nat),
 q 0 p /\
 (∀ t u,q t u ->
 iP (decide (t < g.len)) (eT m.size (eT h.size (cB q7a [.agg #[Sl.v a,Sl.v b],.agg #[Sl.v c,Sl.v d,vi e,vi f,Sl.v g],vi t] [h.size,m.size] u fun v x=>
 iP (!v) (R (vb false) x) (eS h.size 89 [.s c,.s d,.i e,.i f,.s g] (eS m.size 35 [.s a,.s b] (q (w64 (t+1)) x/\s (w64 (t+1)) x < s t u)))))) (eT h.size (rg (w64 ((g.len:Int) - 1)) g (rI u g.blk (g.off+Int.toNat (w64 ((g.len:Int) - 1))*6) fun v=>
 iP (v == 23) (R (vb true) u) (eT h.size (rg (w64 ((g.len:Int) - 1)) g (rI u g.blk (g.off+Int.toNat (w64 ((g.len:Int) - 1))*6) fun x=>
 R (vb (x == 24)) u)))))))))))))))):cV q82 [.agg #[Sl.v a,Sl.v b],.agg #[Sl.v c,Sl.v d,vi e,vi f,Sl.v g]] m R:=vcs (dl:=[]) (A1:=[(5,[(6,.I)])]) (A2:=[]) (A3:=[(5,[62,61])]) (args:=[.agg [.s a,.s b],.agg [.s c,.s d,.i e,.i f,.s g]]) Tryz.func72 h'

theorem qhr (a:Sl) (h' :
 let b:=m.push (.cells (vals []) 3)
 appC b 3 [.i 0] 8 (Sl.mk m.size 0 0 0) a fun c d =>
 R (Sl.v c) d):cV q15 [Sl.v a] m R:=vcs (dl:=[]) (A1:=[]) (A2:=[]) (A3:=[]) (args:=[.c (.s a)]) Tryz.func73 h'

theorem qlf (a b:Int) (c:Sl) (h' :
 let d:=m.push (.cells (vals [.i a,.i b,.s c]) 109)
 let e:=d.push (.cells (vals [.i 0,.i 0,.s Sl.nil]) 122)
 let f:=e.push (.cells (vals [.i 0,.i 0,.s Sl.nil]) 122)
 eT m.size (eT e.size (let g:=scells f e.size 0 [.i a]
 eT m.size (eT e.size (let h:=scells g e.size 1 [.i b]
 eT m.size (cS qc5 [Sl.v c] [e.size,d.size,m.size] h fun i j=>
 eT e.size (let k:=scells j e.size 2 [.s i]
 eT e.size (eT d.size (let l:=scells k d.size 0 [.i a,.i b,.s i]
 eT d.size (R (.agg #[vi a,vi b,Sl.v i]) l)))))))))):cV qbw [.agg #[vi a,vi b,Sl.v c]] m R:=vcs (dl:=[]) (A1:=[]) (A2:=[]) (A3:=[]) (args:=[.agg [.i a,.i b,.s c]]) Tryz.func75 h'

end
section
set_option linter.unusedVariables false
set_option maxRecDepth 100000
variable {m:Mem} {R:Value->Mem->Prop}
theorem qku (a b:Sl) (c d:Int) (e:Sl) (h' :
 let f:=m.push (.cells (vals [.s a,.s b,.i c,.i d,.s e]) 113)
 let g:=f.push (.cells (vals [.s Sl.nil,.s Sl.nil,.i 0,.i 0,.s Sl.nil]) 89)
 let h:=g.push (.cells (vals [.s Sl.nil,.s Sl.nil,.i 0,.i 0,.s Sl.nil]) 89)
 eT m.size (cS q23 [Sl.v a] [g.size,f.size,m.size] h fun i j=>
 eT g.size (let k:=scells j g.size 0 [.s i]
 eT m.size (cS q23 [Sl.v b] [g.size,f.size,m.size] k fun l n=>
 eT g.size (let o:=scells n g.size 1 [.s l]
 eT m.size (eT g.size (let p:=scells o g.size 2 [.i c]
 eT m.size (eT g.size (let q:=scells p g.size 3 [.i d]
 eT m.size (cS q92 [Sl.v e] [g.size,f.size,m.size] q fun s t=>
 eT g.size (let u:=scells t g.size 4 [.s s]
 eT g.size (eT f.size (let v:=scells u f.size 0 [.s i,.s l,.i c,.i d,.s s]
 eT f.size (R (.agg #[Sl.v i,Sl.v l,vi c,vi d,Sl.v s]) v)))))))))))))):cV qbn [.agg #[Sl.v a,Sl.v b,vi c,vi d,Sl.v e]] m R:=vcs (dl:=[]) (A1:=[]) (A2:=[]) (A3:=[]) (args:=[.agg [.s a,.s b,.i c,.i d,.s e]]) Tryz.func76 h'

theorem qgr (a b:Sl) (h' :
 let c:=m.push (.cells (vals [.s a,.s b]) 35)
 let d:=c.push (.cells (vals [.s Sl.nil,.s Sl.nil]) 127)
 eT m.size (iP (decide ((b.len:Int) > 4)) (eT c.size (let e:=scells d c.size 0 [.s Sl.nil,.s Sl.nil]
 eT c.size (R (.tuple #[.agg #[Sl.v Sl.nil,Sl.v Sl.nil],vb false]) e))) (eT m.size (let e:=d.push (.cells (vals [.s Sl.nil,.s Sl.nil]) 127)
 eT d.size (let f:=scells e d.size 0 [.s a,.s Sl.nil]
 eT m.size (∃ (g:Int->Mem->Prop) (h:Int->Mem->Nat),
 g 0 f /\
 (∀ i j,g i j ->
 iP (decide (i < b.len)) (rg i b (rS j b.blk (b.off+i.toNat*5) fun k=>
 rS j b.blk (b.off+i.toNat*5+1) fun l=>
 rI j b.blk (b.off+i.toNat*5+2) fun n=>
 rI j b.blk (b.off+i.toNat*5+3) fun o=>
 rS j b.blk (b.off+i.toNat*5+4) fun p=>
 let q:=j.push (.cells (vals [.s Sl.nil,.s Sl.nil,.i 0,.i 0,.s Sl.nil]) 89)
 eT j.size (let s:=scells q j.size 0 [.s k,.s l,.i n,.i o,.s p]
 rS s d.size 1 fun t=>
 eT j.size (eT j.size (eT j.size (let u:=s.push (.cells (vals [.s k,.s l,.i n]) 183)
 appC u 183 [.s Sl.nil,.s Sl.nil,.i 0] 56 t (Sl.mk s.size 0 1 1) fun v x =>
 Sam [j.size,c.size,m.size] u x /\
 wrOk x d.size 1 1 /\
 let y:=scells x d.size 1 [.s v]
 Sam [j.size,c.size,m.size] x y /\
 eS c.size 127 [.s Sl.nil,.s Sl.nil] (eS m.size 35 [.s a,.s b] (g (w64 (i+1)) y/\h (w64 (i+1)) y < h i j)))))))) (rS j d.size 0 fun k=>
 rS j d.size 1 fun l=>
 eT m.size (rS j d.size 1 fun n=>
 cB q8c [Sl.v a,Sl.v n] [c.size,m.size] j fun o p=>
 gk p j d.size 0 /\
 gk p j d.size 1 /\
 eT c.size (let q:=scells p c.size 0 [.s k,.s l]
 eT c.size (R (.tuple #[.agg #[Sl.v k,Sl.v l],vb o]) q))))))))))):cV q8v [.agg #[Sl.v a,Sl.v b]] m R:=vcs (dl:=[9]) (A1:=[(5,[(18,.I)])]) (A2:=[]) (A3:=[(5,[43,42])]) (args:=[.agg [.s a,.s b]]) Tryz.func77 h'

theorem q8q (a b c d:Sl) (e f:Int) (g:Sl) (h i j k l:Int) (n o:Sl) (h' :
 let p:=m.push (.cells (vals [.s a,.s b]) 127)
 let q:=p.push (.cells (vals [.s c,.s d,.i e,.i f,.s g]) 89)
 let s:=q.push (.cells (vals [.i h]) 3)
 let t:=s.push (.cells (vals [.i i,.i j,.i k,.i l,.s n,.s o]) 86)
 eT s.size (iP (decide (i < 0)) (R (vb false) t) (eT s.size (iP (decide (i > 24)) (R (vb false) t) (eT s.size (iP (i == 7) (R (vb false) t) (eT s.size (iP (i == 8) (R (vb false) t) (eT s.size (iP (i == 12) (R (vb false) t) (eT s.size (iP (i == 13) (R (vb false) t) (∃ u:Mem->Prop,
 (eT s.size (iP (decide (j < 0)) (R (vb false) t) (eT s.size (eT p.size (iP (decide (j ≥ f)) (R (vb false) t) (eT s.size (iP (j != 0) (eT s.size (cB q4p [vi i] [s.size,q.size,p.size,m.size] t fun v x=>
 iP (!v) (R (vb false) x) (eT s.size (iP (decide (l < 0)) (R (vb false) x) (eT s.size (eT p.size (iP (decide (l > f)) (R (vb false) x) (eT s.size (iP (l != 0) (eT s.size (iP (i != 6) (R (vb false) x) (eS s.size 86 [.i i,.i j,.i k,.i l,.s n,.s o] (eS q.size 3 [.i h] (eS p.size 89 [.s c,.s d,.i e,.i f,.s g] (eS m.size 127 [.s a,.s b] (u x))))))) (eS s.size 86 [.i i,.i j,.i k,.i l,.s n,.s o] (eS q.size 3 [.i h] (eS p.size 89 [.s c,.s d,.i e,.i f,.s g] (eS m.size 127 [.s a,.s b] (u x)))))))))))))) (eT s.size (iP (decide (l < 0)) (R (vb false) t) (eT s.size (eT p.size (iP (decide (l > f)) (R (vb false) t) (eT s.size (iP (l != 0) (eT s.size (iP (i != 6) (R (vb false) t) (eS s.size 86 [.i i,.i j,.i k,.i l,.s n,.s o] (eS q.size 3 [.i h] (eS p.size 89 [.s c,.s d,.i e,.i f,.s g] (eS m.size 127 [.s a,.s b] (u t))))))) (eS s.size 86 [.i i,.i j,.i k,.i l,.s n,.s o] (eS q.size 3 [.i h] (eS p.size 89 [.s c,.s d,.i e,.i f,.s g] (eS m.size 127 [.s a,.s b] (u t))))))))))))))))))) /\
 (∀ v,u v ->
 eT s.size (∃ (x:Int->Mem->Prop) (y:Int->Mem->Nat),
 x 0 v /\
 (∀ z A,x z A ->
 iP (decide (z < n.len)) (rg z n (rI A n.blk (n.off+z.toNat*1) fun B=>
 iP (decide (B < 0)) (R (vb false) A) (eT p.size (iP (decide (B ≥ f)) (R (vb false) A) (eS s.size 86 [.i i,.i j,.i k,.i l,.s n,.s o] (eS q.size 3 [.i h] (eS p.size 89 [.s c,.s d,.i e,.i f,.s g] (eS m.size 127 [.s a,.s b] (x (w64 (z+1)) A/\y (w64 (z+1)) A < y z A))))))))) (let B:=A.push (.cells (vals [.nf]) 159)
 eT A.size (let C:=scells B A.size 0 [.fn (.func q0v) #[] #[vp q.size 0,vp p.size 0]]
 eT s.size (iP (decide ((o.len:Int) > 0)) (eT s.size (iP (i != 21) (R (vb false) C) (eT s.size (cB q12 [Sl.v o,.func (.func q1j) #[] #[vp A.size 0]] [s.size,m.size] C fun D E=>
 iP D (R (vb false) E) (eT m.size (eT s.size (∃ F:Fn × Array Value × Array Value,gcell E A.size 0=some (.func F.1 F.2.1 F.2.2) /\
 cB q2e [.agg #[Sl.v a,Sl.v b],.agg #[vi i,vi j,vi k,vi l,Sl.v n,Sl.v o],.func F.1 F.2.1 F.2.2] [s.size,m.size] E fun G H=>
 iP (!G) (R (vb false) H) (eT m.size (eT s.size (cV q2p [.agg #[Sl.v a,Sl.v b],.agg #[vi i,vi j,vi k,vi l,Sl.v n,Sl.v o]] H fun J K=>
 Sam [s.size,m.size] H K /\
 ∃ L:Int,∃ M:Int,J=.tuple #[vi L,vi M] /\
 eT s.size (iP (decide ((n.len:Int) ≥ L)) (eT s.size (R (vb (decide ((n.len:Int)<=M))) K)) (R (vb false) K)))))))))))) (eT s.size (cB q12 [Sl.v o,.func (.func q1j) #[] #[vp A.size 0]] [s.size,m.size] C fun D E=>
 iP D (R (vb false) E) (eT m.size (eT s.size (∃ F:Fn × Array Value × Array Value,gcell E A.size 0=some (.func F.1 F.2.1 F.2.2) /\
 cB q2e [.agg #[Sl.v a,Sl.v b],.agg #[vi i,vi j,vi k,vi l,Sl.v n,Sl.v o],.func F.1 F.2.1 F.2.2] [s.size,m.size] E fun G H=>
 iP (!G) (R (vb false) H) (eT m.size (eT s.size (cV q2p [.agg #[Sl.v a,Sl.v b],.agg #[vi i,vi j,vi k,vi l,Sl.v n,Sl.v o]] H fun J K=>
 Sam [s.size,m.size] H K /\
 ∃ L:Int,∃ M:Int,J=.tuple #[vi L,vi M] /\
 eT s.size (iP (decide ((n.len:Int) ≥ L)) (eT s.size (R (vb (decide ((n.len:Int)<=M))) K)) (R (vb false) K))))))))))))))))))))))))))))):cV q3u [.agg #[Sl.v a,Sl.v b],.agg #[Sl.v c,Sl.v d,vi e,vi f,Sl.v g],vi h,.agg #[vi i,vi j,vi k,vi l,Sl.v n,Sl.v o]] m R:=vcs (dl:=[]) (A1:=[(6,[(88,.I)])]) (A2:=[(5,[])]) (A3:=[(5,[147,146,145,144]),(6,[147,146,145,144])]) (args:=[.agg [.s a,.s b],.agg [.s c,.s d,.i e,.i f,.s g],.c (.i h),.agg [.i i,.i j,.i k,.i l,.s n,.s o]]) Tryz.func78 h'

theorem qia (a b:Sl) (c d:Int) (h' :
 let e:=m.push (.cells (vals [.s a,.s b]) 35)
 let f:=e.push (.cells (vals [.i 0,.i 0,.i 0,.s Sl.nil,.s Sl.nil,.s Sl.nil]) 84)
 eT m.size (rg c b (rI f b.blk (b.off+c.toNat*5+3) fun g=>
 (0<=g/\g<=g/\((8:Nat):Int)*g<=281474976710656/\g<=9223372036854775807 /\
 let h:=f.push (.cells (vals (zrow [.i 0] (g.toNat))) 3)
 (0<=g/\g<=g/\((8:Nat):Int)*g<=281474976710656/\g<=9223372036854775807 /\
 let i:=h.push (.cells (vals (zrow [.i 0] (g.toNat))) 3)
 0<=g/\g<=g/\((8:Nat):Int)*g<=281474976710656/\g<=9223372036854775807 /\
 let j:=i.push (.cells (vals (zrow [.i 0] (g.toNat))) 3)
 eT e.size (let k:=scells j e.size 0 [.i c,.i 0,.i d,.s (Sl.mk f.size 0 (g.toNat) (g.toNat)),.s (Sl.mk h.size 0 (g.toNat) (g.toNat)),.s (Sl.mk i.size 0 (g.toNat) (g.toNat))]
 eT e.size (R (.agg #[vi c,vi 0,vi d,Sl.v (Sl.mk f.size 0 (g.toNat) (g.toNat)),Sl.v (Sl.mk h.size 0 (g.toNat) (g.toNat)),Sl.v (Sl.mk i.size 0 (g.toNat) (g.toNat))]) k))) /\
 (0<=g/\g<=g/\((8:Nat):Int)*g<=281474976710656/\g<=9223372036854775807 /\
 let i:=h.push (.cells (vals (zrow [.i 0] (g.toNat))) 3)
 0<=g/\g<=g/\((8:Nat):Int)*g<=281474976710656/\g<=9223372036854775807 /\
 let j:=i.push (.cells (vals (zrow [.i 0] (g.toNat))) 3)
 eT e.size (let k:=scells j e.size 0 [.i c,.i 0,.i d,.s (Sl.mk f.size 0 (g.toNat) (g.toNat)),.s (Sl.mk i.size 0 (g.toNat) (g.toNat)),.s (Sl.mk h.size 0 (g.toNat) (g.toNat))]
 eT e.size (R (.agg #[vi c,vi 0,vi d,Sl.v (Sl.mk f.size 0 (g.toNat) (g.toNat)),Sl.v (Sl.mk i.size 0 (g.toNat) (g.toNat)),Sl.v (Sl.mk h.size 0 (g.toNat) (g.toNat))]) k)))) /\
 (0<=g/\g<=g/\((8:Nat):Int)*g<=281474976710656/\g<=9223372036854775807 /\
 let h:=f.push (.cells (vals (zrow [.i 0] (g.toNat))) 3)
 (0<=g/\g<=g/\((8:Nat):Int)*g<=281474976710656/\g<=9223372036854775807 /\
 let i:=h.push (.cells (vals (zrow [.i 0] (g.toNat))) 3)
 0<=g/\g<=g/\((8:Nat):Int)*g<=281474976710656/\g<=9223372036854775807 /\
 let j:=i.push (.cells (vals (zrow [.i 0] (g.toNat))) 3)
 eT e.size (let k:=scells j e.size 0 [.i c,.i 0,.i d,.s (Sl.mk h.size 0 (g.toNat) (g.toNat)),.s (Sl.mk f.size 0 (g.toNat) (g.toNat)),.s (Sl.mk i.size 0 (g.toNat) (g.toNat))]
 eT e.size (R (.agg #[vi c,vi 0,vi d,Sl.v (Sl.mk h.size 0 (g.toNat) (g.toNat)),Sl.v (Sl.mk f.size 0 (g.toNat) (g.toNat)),Sl.v (Sl.mk i.size 0 (g.toNat) (g.toNat))]) k))) /\
 (0<=g/\g<=g/\((8:Nat):Int)*g<=281474976710656/\g<=9223372036854775807 /\
 let i:=h.push (.cells (vals (zrow [.i 0] (g.toNat))) 3)
 0<=g/\g<=g/\((8:Nat):Int)*g<=281474976710656/\g<=9223372036854775807 /\
 let j:=i.push (.cells (vals (zrow [.i 0] (g.toNat))) 3)
 eT e.size (let k:=scells j e.size 0 [.i c,.i 0,.i d,.s (Sl.mk i.size 0 (g.toNat) (g.toNat)),.s (Sl.mk f.size 0 (g.toNat) (g.toNat)),.s (Sl.mk h.size 0 (g.toNat) (g.toNat))]
 eT e.size (R (.agg #[vi c,vi 0,vi d,Sl.v (Sl.mk i.size 0 (g.toNat) (g.toNat)),Sl.v (Sl.mk f.size 0 (g.toNat) (g.toNat)),Sl.v (Sl.mk h.size 0 (g.toNat) (g.toNat))]) k)))) /\
 (0<=g/\g<=g/\((8:Nat):Int)*g<=281474976710656/\g<=9223372036854775807 /\
 let h:=f.push (.cells (vals (zrow [.i 0] (g.toNat))) 3)
 (0<=g/\g<=g/\((8:Nat):Int)*g<=281474976710656/\g<=9223372036854775807 /\
 let i:=h.push (.cells (vals (zrow [.i 0] (g.toNat))) 3)
 0<=g/\g<=g/\((8:Nat):Int)*g<=281474976710656/\g<=9223372036854775807 /\
 let j:=i.push (.cells (vals (zrow [.i 0] (g.toNat))) 3)
 eT e.size (let k:=scells j e.size 0 [.i c,.i 0,.i d,.s (Sl.mk h.size 0 (g.toNat) (g.toNat)),.s (Sl.mk i.size 0 (g.toNat) (g.toNat)),.s (Sl.mk f.size 0 (g.toNat) (g.toNat))]
 eT e.size (R (.agg #[vi c,vi 0,vi d,Sl.v (Sl.mk h.size 0 (g.toNat) (g.toNat)),Sl.v (Sl.mk i.size 0 (g.toNat) (g.toNat)),Sl.v (Sl.mk f.size 0 (g.toNat) (g.toNat))]) k))) /\
 (0<=g/\g<=g/\((8:Nat):Int)*g<=281474976710656/\g<=9223372036854775807 /\
 let i:=h.push (.cells (vals (zrow [.i 0] (g.toNat))) 3)
 0<=g/\g<=g/\((8:Nat):Int)*g<=281474976710656/\g<=9223372036854775807 /\
 let j:=i.push (.cells (vals (zrow [.i 0] (g.toNat))) 3)
 eT e.size (let k:=scells j e.size 0 [.i c,.i 0,.i d,.s (Sl.mk i.size 0 (g.toNat) (g.toNat)),.s (Sl.mk h.size 0 (g.toNat) (g.toNat)),.s (Sl.mk f.size 0 (g.toNat) (g.toNat))]
 eT e.size (R (.agg #[vi c,vi 0,vi d,Sl.v (Sl.mk i.size 0 (g.toNat) (g.toNat)),Sl.v (Sl.mk h.size 0 (g.toNat) (g.toNat)),Sl.v (Sl.mk f.size 0 (g.toNat) (g.toNat))]) k))))))):cV q9u [.agg #[Sl.v a,Sl.v b],vi c,vi d] m R:=vcs (dl:=[2]) (A1:=[]) (A2:=[]) (A3:=[]) (args:=[.agg [.s a,.s b],.c (.i c),.c (.i d)]) Tryz.func79 h'

theorem qeu (a b:Nat × Nat) (c d e f:Int) (g h:Sl) (h' :
 let i:=m.push (.cells (vals [.p b.1 b.2]) 133)
 let j:=i.push (.cells (vals [.i c,.i d,.i e,.i f,.s g,.s h]) 86)
 eT m.size (rS j b.1 (b.2+4) fun k=>
 cS q11 [Sl.v k] [i.size,m.size] j fun l n=>
 eT i.size (cV q3p [vp a.1 a.2,.agg #[vi c,vi d,vi e,vi f,Sl.v g,Sl.v h]] n fun o p=>
 Sam [i.size,m.size] n p /\
 ∃ q:Sl,∃ s:Sl,o=.tuple #[Sl.v q,Sl.v s] /\
 ∃ (t:Int->Mem->Prop) (u:Int->Mem->Nat),
 t 0 p /\
 (∀ v x,t v x ->
 iP (decide (v < q.len)) (rg v q (rI x q.blk (q.off+v.toNat*1) fun y=>
 eT m.size (rS x b.1 (b.2+3) fun z=>
 rg y z (rI x z.blk (z.off+y.toNat*1) fun A=>
 iP (decide (A ≥ 1000)) (rg y l (rI x l.blk (l.off+y.toNat*1) fun B=>
 rg y l (wrOk x l.blk (l.off+y.toNat*1) 1 /\
 let C:=scells x l.blk (l.off+y.toNat*1) [.i (w64 (B - 1))]
 Sam [i.size,m.size] x C /\
 rg y l (rI C l.blk (l.off+y.toNat*1) fun D=>
 iP (decide (D < 0)) (R (vb false) C) (eS i.size 86 [.i c,.i d,.i e,.i f,.s g,.s h] (eS m.size 133 [.p b.1 b.2] (t (w64 (v+1)) C/\u (w64 (v+1)) C < u v x))))))) (eS i.size 86 [.i c,.i d,.i e,.i f,.s g,.s h] (eS m.size 133 [.p b.1 b.2] (t (w64 (v+1)) x/\u (w64 (v+1)) x < u v x))))))) (∃ y:Mem->Prop,
 (eT i.size (cB q4p [vi c] [i.size,m.size] x fun z A=>
 iP z (eT i.size (rg d l (rI A l.blk (l.off+d.toNat*1) fun B=>
 iP (decide (B > 0)) (R (vb false) A) (eS i.size 86 [.i c,.i d,.i e,.i f,.s g,.s h] (eS m.size 133 [.p b.1 b.2] (y A)))))) (eS i.size 86 [.i c,.i d,.i e,.i f,.s g,.s h] (eS m.size 133 [.p b.1 b.2] (y A))))) /\
 (∀ z,y z ->
 ∃ (A:Int->Mem->Prop) (B:Int->Mem->Nat),
 A 0 z /\
 (∀ C D,A C D ->
 iP (decide (C < s.len)) (rg C s (rI D s.blk (s.off+C.toNat*1) fun E=>
 eT m.size (rS D b.1 (b.2+3) fun F=>
 rg E F (rI D F.blk (F.off+E.toNat*1) fun G=>
 iP (decide (G ≥ 1000)) (cB q5g [vp a.1 a.2,vi G] [i.size,m.size] D fun H J=>
 iP (!H) (R (vb false) J) (eS i.size 86 [.i c,.i d,.i e,.i f,.s g,.s h] (eS m.size 133 [.p b.1 b.2] (A (w64 (C+1)) J/\B (w64 (C+1)) J < B C D)))) (eS i.size 86 [.i c,.i d,.i e,.i f,.s g,.s h] (eS m.size 133 [.p b.1 b.2] (A (w64 (C+1)) D/\B (w64 (C+1)) D < B C D))))))) (eT i.size (iP ((c == 1) || ((c == 2) || ((c == 3) || ((c == 4) || ((c == 5) || (c == 20)))))) (eT i.size (cB q12 [Sl.v g,.func (.func q4e) #[] #[vp m.size 0]] [i.size] D fun E F=>
 R (vb (!E)) F)) (iP (c == 6) (eT i.size (iP (f != 0) (eT m.size (rS D b.1 (b.2+5) fun E=>
 eT i.size (rg (w64 (f - 1)) E (rI D E.blk (E.off+Int.toNat (w64 (f - 1))*1) fun F=>
 iP (F != 0) (rS D a.1 (a.2+3+5) fun G=>
 eT m.size (rS D b.1 (b.2+5) fun H=>
 eT i.size (rg (w64 (f - 1)) H (rI D H.blk (H.off+Int.toNat (w64 (f - 1))*1) fun J=>
 rg (w64 (J - 1000)) G (rS D G.blk (G.off+Int.toNat (w64 (J - 1000))*3+2) fun K=>
 eT i.size (R (vb ((K.len:Int) == (g.len:Int))) D)))))) (R (vb true) D))))) (R (vb true) D))) (iP ((c == 24) || (c == 23)) (cB q71 [Sl.v l] [i.size,m.size] D fun E F=>
 iP (!E) (R (vb false) F) (eT m.size (rS F b.1 (b.2+5) fun G=>
 cB q71 [Sl.v G] [i.size,m.size] F fun H J=>
 iP (!H) (R (vb false) J) (eT i.size (iP (c == 24) (R (vb true) J) (rS J a.1 (a.2+3+6) fun K=>
 iP (decide ((K.len:Int) > 1)) (R (vb true) J) (eT m.size (rS J b.1 (b.2+3) fun L=>
 eT i.size (rg 0 g (rI J g.blk (g.off+Int.toNat 0*1) fun M=>
 rg M L (rI J L.blk (L.off+M.toNat*1) fun N=>
 R (vb (decide (N < 1000))) J))))))))))) (iP (c == 11) (eT m.size (eT i.size (cB q4t [vp a.1 a.2,vp b.1 b.2,.agg #[vi c,vi d,vi e,vi f,Sl.v g,Sl.v h]] [i.size,m.size] D fun E F=>
 R (vb E) F))) (iP (c == 15) (eT m.size (rS D b.1 (b.2+3) fun E=>
 eT i.size (rg 0 g (rI D g.blk (g.off+Int.toNat 0*1) fun F=>
 rg F E (rI D E.blk (E.off+F.toNat*1) fun G=>
 R (vb (decide (G ≥ 1000))) D))))) (iP ((c == 14) || ((c == 19) || ((c == 21) || ((c == 16) || (c == 17))))) (eT m.size (eT i.size (cB q4f [vp a.1 a.2,vp b.1 b.2,.agg #[vi c,vi d,vi e,vi f,Sl.v g,Sl.v h]] [i.size,m.size] D fun E F=>
 R (vb E) F))) (R (vb true) D))))))))))))))):cV q41 [vp a.1 a.2,vp b.1 b.2,.agg #[vi c,vi d,vi e,vi f,Sl.v g,Sl.v h]] m R:=vcs (dl:=[29,30,35,39]) (A1:=[(4,[(28,.I)]),(14,[(65,.I)])]) (A2:=[(13,[])]) (A3:=[(4,[212,211]),(13,[212,211]),(14,[212,211])]) (args:=[.c (.p a.1 a.2),.c (.p b.1 b.2),.agg [.i c,.i d,.i e,.i f,.s g,.s h]]) Tryz.func80 h'

end
end Go.Proofs.YtpggcodlaajceaaGreat
