/- Part of a proof, joined by a program. -/
import Derived.Test.YtakpkjhmbbfniaaGreatU10
import Derived.Test.YtakpkjhmbbfniaaGreatU15
set_option linter.unusedVariables false
set_option linter.unusedSimpArgs false
set_option linter.defProp false
set_option linter.constructorNameAsVariable false
set_option maxHeartbeats 8000000
set_option maxRecDepth 100000
namespace Go.Proofs.YtakpkjhmbbfniaaGreat
open Go.Vc
section
variable{t:cL}{g:Instr}{v:O}{c av aV be:List Int}{u q j s b nb:Nat}{e:I}
def gG(t:cL)(g:Instr):Nat->List Int->List Int
 |_,[]=>[]
 |b,w::v=>(if(g.op=9\/g.op=24)/\mK t g b=true then 0 else iR w)::gG t g (b+1) v
def AL(t:cL)(g:Instr):∀(c r:List Int)(b:Nat),gG t g b (c++r)=gG t g b c++gG t g (b+c.length) r
 |[],r,b=>by simp[gG]
 |a::c,r,b=>by
  have:=AL t g c r (b+1);simp only[cN,gG,this,ba];have e:b+(c.length+1)=b+1+c.length:=V;rw[e]
def Bq(t:cL)(g:Instr):∀(c:List Int)(b:Nat),(gG t g b c).length=c.length
 |[],b=>rfl
 |a::c,b=>by simp only[gG,ba,Bq t g c]
def Gp{t:cL}{g:Instr}(a:g.op=9\/g.op=24):∀(c:List Int)(b:Nat),gG t g b c=gP (dF t g.bJ).cV b c
 |[],b=>rfl
 |e::c,b=>by
  simp only[gG,gP,Gp a c];congr 1;unfold mK;by_cases h:((dF t g.bJ).cV.any λy=>y==(b:Int))=true
  ·rw[aq ⟨a,h⟩,aq h]
  ·rw[ae (λd=>h d.2),ae h]
def Dl{t:cL}{g:Instr}(a:¬(g.op=9\/g.op=24)):∀(c:List Int)(b:Nat),gG t g b c=gP [] b c
 |[],b=>rfl
 |e::c,b=>by
  simp only[gG,gP,Dl a c,Nw,ji,rU];rw[ae (λd=>a d.1)]
def Cf{m:I}{q:Nat}{s F:O}(ad:eX m s F t)(Z:D m q 0=some (O.v s))(g1:D m q 1=some (O.v F))(hc:Ba t g)(K U:O)(Q:au m v c)(ah:c.length<=1000000):
 oD 178 [vp q 0,xv g K U,O.v v] m (gG t g 0 c):=by
 apply pH (q,0)
 simp -zeta only[aE,aD]
 intro a B
 have z:J m a:=(J.aC m).aM _
 have h2:J a B:=(J.aC a).aM _
 have ho:iZ a B aB 1 (.mk a.size 0 0 0) []:=iZ.new (J.aC a) aB 1 [] 0 E
 have f:∀r∈[m.size],r<a.size:=by simp[a]
 have ai:=Q.len
 clear_value B
 clear_value a
 refine dt (n:=c.length) V (λb G e=>J a e/\iZ a e aB 1 G ((gG t g 0 (c.take b)).map Ce.i)) ⟨h2,by simpa[gG]using ho⟩ ?_
 rintro b G m3 af μ hk ⟨R,h⟩ C
 have S:=z.trans R
 refine dit (λaa=>?_) λaa=>?_
 ·obtain⟨H,T⟩:=ag (l:=c) (k:=b) V
  have P:(c.take b).length=b:=bF
  have y:gG t g 0 (c.take (b+1))=gG t g 0 (c.take b)++[if(g.op=9\/g.op=24)/\mK t g b=true then 0 else iR H]:=by
   rw[bK T,AL,P];simp[gG]
  have x:(gG t g 0 (c.take b)).length<1000000000:=by rw[Bq,P];omega
  refine⟨V,V,H,by simpa using S.D (Q.u T),(dy _ _).aG R f λr m4 M u o=>⟨r,rfl,λac=>?_,λab=>?_⟩⟩
  ·have A:=z.trans o
   refine⟨s,A.D Z,F,A.D g1,(pT (ad.ext A) hc K U b).aG o f λj m5 N L p=>⟨j,rfl,λw=>?_,λw=>?_⟩⟩
   ·intro W
    refine rh ((h.ext u).ext L) p x λY X i d=>⟨J.By (p.aM _) d f,C V _ _ ⟨d,?_⟩⟩
    rw[y,ae (Vc.nb N w),iR,aq (M.1 ac)];exact i
   ·intro W
    refine rh ((h.ext u).ext L) p x λY X i d=>⟨J.By (p.aM _) d f,C V _ _ ⟨d,?_⟩⟩
    rw[y,aq (Vc.yb N w)];exact i
  ·intro W
   refine rh (h.ext u) o x λY X i d=>⟨J.By (o.aM _) d f,C V _ _ ⟨d,?_⟩⟩
   rw[y]
   have p:(if(g.op=9\/g.op=24)/\mK t g b=true then 0 else iR H)=0:=by
    rw[iR,ae (Vc.fb M ab)];split<;>rfl
   rw[p];exact i
 ·rw[cE V]at h
  exact⟨G,rfl,h.cF z.size,S⟩
structure rX(m e:I)(q j s u:Nat)(av aV be:List Int):Prop where
 ext:J m e
 lo:m.size<=q/\m.size<=j/\m.size<=s/\q≠j/\q≠s/\j≠s/\q<e.size/\j<e.size/\s<e.size
 kr:cD e q aB (av.map Ce.i)
 ko:cD e j aB (aV.map Ce.i)
 kh:cD e s aB (be.map Ce.i)
 len:av.length=u/\aV.length=u/\be.length=u
def Ip{a:I}{b:Nat}(f:cD a b aB ((fJ u).map Ce.i))(g:c.length<=u):cD (aj a b 0 (c.map Ce.i)) b aB ((c++fJ (u -c.length)).map Ce.i):=by
 have:=cD.aj (m:=a) (o:=0) (r:=c.map Ce.i) f;have e:iD ((fJ u).map Ce.i) 0 (c.map Ce.i)=(c++fJ (u -c.length)).map Ce.i:=by
  have d:=zp [] (c.map Ce.i) ((fJ u).map Ce.i) (by simp[kY];omega);simp only[dS,eG]at d;rw[d];simp[fJ,List.drop_replicate]
 rw[e]at this;exact this
def vI{m:I}{L U:O}(N:eX m L U t){r:Int}(W:0<=r){a:cY}(Q:t.cB[r.toNat]? =some a)(F:0<=a.av/\a.av<=2000)(M:Int){K:O}{d h:List Int}(R:au m v d)(P:au m K h)(ak:(d.length:Int)<=a.av)(ai:h.length=d.length):
 aN bY 73 [.agg #[O.v L,O.v U],vi r,vi M,O.v v,O.v K] m λag e=>∃q j s,ag=.agg #[vi r,vi 0,vi M,O.v (.mk q 0 a.av.toNat a.av.toNat),O.v (.mk j 0 a.av.toNat a.av.toNat),O.v (.mk s 0 a.av.toNat a.av.toNat)]/\
  rX m e q j s a.av.toNat (d++fJ (a.av.toNat -d.length)) (h++fJ (a.av.toNat -h.length)) (fJ a.av.toNat):=by
 apply BR
 simp -zeta only[aE,aD]
 intro A b
 have z:J m b:=((J.aC m).aM _).aM _
 have s1:A.size=m.size+1:=by simp[A]
 have s2:b.size=m.size+2:=by simp[b,s1]
 have k:∀g∈[A.size,m.size],g<b.size:=bF
 have aj:=N.cB.len
 have ah:=ax Q
 have aa:=R.len
 have Z:=P.len
 clear_value b
 obtain⟨a',l',c',_,_,_,_,_,_,k3,_⟩:=(N.ext z).cB.u Q
 refine⟨W,V,a.av,k3,(pu F.1 V).mono ?_⟩
 rintro _ c ⟨rfl,n⟩
 have C:J b c:=by rw[n];exact J.push _ _
 have s3:c.size=b.size+1:=by rw[n];simp
 have S:cD c b.size aB ((fJ a.av.toNat).map Ce.i):=by rw[n];exact cD.push _ _ _
 clear n
 refine⟨C.de k,_,rfl,(pu F.1 V).mono ?_⟩
 rintro _ B ⟨rfl,o⟩
 have x:J c B:=by rw[o];exact J.push _ _
 have s4:B.size=c.size+1:=by rw[o];simp
 have k2:cD B c.size aB ((fJ a.av.toNat).map Ce.i):=by rw[o];exact cD.push _ _ _
 clear o
 have D:=C.trans x
 have ab:=z.trans D
 have X:min v.len a.av.toNat=d.length:=by rw[aa];exact iO V
 have Y:min K.len a.av.toNat=h.length:=by rw[Z];exact iO V
 refine⟨x.de (λg E=>C.lt (k g E)),_,rfl,d.map Ce.i,by simp only[O.fZ];rw[X];simp,(R.ext ab).Ol,(S.ext x).fu (by simp[kY];omega),?_⟩
 intro i
 have k5:cD i b.size aB ((d++fJ (a.av.toNat -d.length)).map Ce.i):=Ip (S.ext x) V
 have T:cD i c.size aB ((fJ a.av.toNat).map Ce.i):=k2.congr (bn _ _ _ _ (show c.size≠b.size by omega))
 have u:J b i:=D.aj (ad _) _ _
 have s5:i.size=B.size:=az _ _ _ _
 clear_value i
 have ac:=z.trans u
 refine⟨J.By D u k,h.map Ce.i,by simp only[O.fZ];rw[Y];simp,(P.ext ac).Ol,T.fu (by simp[kY];omega),?_⟩
 intro f
 have k6:cD f c.size aB ((h++fJ (a.av.toNat -h.length)).map Ce.i):=Ip T V
 have af:cD f b.size aB ((d++fJ (a.av.toNat -d.length)).map Ce.i):=k5.congr (bn _ _ _ _ (show b.size≠c.size by omega))
 have w:J b f:=u.aj (show b.size<=c.size by omega) _ _
 have s6:f.size=i.size:=az _ _ _ _
 clear_value f
 refine⟨J.By u w k,(pu F.1 V).mono ?_⟩
 rintro _ l ⟨rfl,p⟩
 have y:J f l:=by rw[p];exact J.push _ _
 have s7:l.size=f.size+1:=by rw[p];simp
 have k7:cD l f.size aB ((fJ a.av.toNat).map Ce.i):=by rw[p];exact cD.push _ _ _
 clear p
 refine⟨J.By w (w.trans y) k,_,rfl,?_⟩
 intro G
 have ae:J m G:=(z.trans (w.trans y)).aj V _ _
 have s8:G.size=l.size:=az _ _ _ _
 have H:∀g,g≠A.size->G[g]? =l[g]? :=λg E=>bn _ _ _ _ E
 refine⟨b.size,c.size,f.size,rfl,ae,V,(af.ext y).congr (H _ V),(k6.ext y).congr (H _ V),k7.congr (H _ V),by simp[kY];omega⟩
def pR(a:Nat->Nat)(q j s u:Nat):Nat->Nat:=uz (uz (uz a q (10+3*u)) j (11+3*u)) s (12+3*u)
def rX.fe{p:Nat->Prop}{d:Nat->Nat}{m:I}(N:rX m e q j s b av aV be)(f:∀a,m.size<=a->d a=0):dA p d m (pR d q j s u) e:=by
 have g:=N.lo;refine⟨N.ext.size,λa c=>?_,λa c=>?_,λa c _=>N.ext.same a c⟩
 ·unfold pR;rw[eZ V,eZ V,eZ V]
 ·unfold pR;rw[eZ V,eZ V,eZ V];exact f a (by have:=N.ext.size;omega)
def rX.qQ{a:Nat->Nat}{m:I}(N:rX m e q j s b av aV be):
 gY (pR a q j s u) e aB 1 (10+3*u) (.mk q 0 b b) (av.map Ce.i)/\gY (pR a q j s u) e aB 1 (11+3*u) (.mk j 0 b b) (aV.map Ce.i)/\gY (pR a q j s u) e aB 1 (12+3*u) (.mk s 0 b b) (be.map Ce.i):=by
 have g:=N.lo
 obtain⟨c,d,f⟩:=N.len
 refine⟨⟨by simp[c],E,Or.inr ⟨q,b,[],rfl,?_,by rw[gV];exact N.kr,by simp[c]⟩⟩,⟨by simp[d],E,Or.inr ⟨j,b,[],rfl,?_,by rw[gV];exact N.ko,by simp[d]⟩⟩,⟨by simp[f],E,Or.inr ⟨s,b,[],rfl,?_,by rw[gV];exact N.kh,by simp[f]⟩⟩⟩
 ·unfold pR;rw[eZ V,eZ V,iE]
 ·unfold pR;rw[eZ V,iE]
 ·unfold pR;rw[iE]
def rX.box{m:I}(N:rX m e q j s b av aV be){m1:I}(a:J m1 m)(d:m1.size<=nb)(f:nb<m.size)(i:Nat)(c:List Ce):rX m1 (aj e nb i c) q j s b av aV be:=by
 have g:=N.lo;have h:=a.size;exact⟨(a.trans N.ext).aj d _ _,by rw[az];omega,N.kr.congr (bn _ _ _ _ V),N.ko.congr (bn _ _ _ _ V),N.kh.congr (bn _ _ _ _ V),N.len⟩
def rX.TY{m c:I}(N:rX m e q j s b av aV be)(a:J e c):rX m c q j s b av aV be:=by
 have d:=N.lo;have:=a.size;exact⟨N.ext.trans a,V,N.kr.ext a,N.ko.ext a,N.kh.ext a,N.len⟩
section
variable{G:I}{y:Nat->Nat}{m:I}{z:Nat}{d p bq C l:O}{A:St}{k:List a9}{w:a9}{K H F:O}{B:List (List Ce)}
def qO.replace{c:Nat->Nat}(T:qO y m l k w K H F B)(t:dA (λ_=>False) y m c e){a:a9}{i g d:O}(u:gY c e aB 1 (10+3*k.length) i (a.av.map Ce.i))(q:gY c e aB 1 (11+3*k.length) g (a.aV.map Ce.i))(s:gY c e aB 1 (12+3*k.length) d (a.be.map Ce.i)):
 fu e l.F (l.off+k.length*6) 6/\nu c (aj e l.F (l.off+k.length*6) [.i a.eU,.i a.pc,.i a.dst,.s i,.s g,.s d]) l (k++[a])/\dA (λb=>b=4) c e c (aj e l.F (l.off+k.length*6) [.i a.eU,.i a.pc,.i a.dst,.s i,.s g,.s d]):=by
 have n:qO c e l k w K H F B:=T.fe t λ_ _=>id
 have v:=n.F
 have p:B.flatten.length=k.length*6:=by rw[cX T.size,T.len]
 have j:dA (λb=>b=4) c e c (aj e l.F (l.off+k.length*6) [.i a.eU,.i a.pc,.i a.dst,.s i,.s g,.s d]):=dA.aj t.new v.1 _ _
 refine⟨n.qQ.wr (by simp[p]),qO.rV (f:=a) (a:=k) (l:=B) (r:=i) (k:=g) (h:=d) ⟨?_,T.len,T.size,n.vD j λb q s=>V,u.fe j V,q.fe j V,s.fe j V⟩,j⟩
 have:=n.qQ.set (o:=k.length*6) (new:=[.i a.eU,.i a.pc,.i a.dst,.s i,.s g,.s d]) (by simp[p])
 rw[lH _ _ _ _ V,p,Nat.sub_self]at this
 exact this
def Kj(z nb:Nat)(d:List Nat)(l p f:Int)(g h o:Int)(m k i:O)(e:I)(R:Value->I->Prop):Prop:=
 ((l==(24:Int))=true->
 let b:I:=aj e nb 2 [.i f]
 ∃a:O,D b z 8=some (O.v a)/\
 ∃c:O,D b z 8=some (O.v c)/\
 (0:Int)<=(cO ((c.len:Int) -(1:Int)))/\(cO ((c.len:Int) -(1:Int)))<(a.len:Int)/\
 fu b a.F (a.off+Int.toNat (cO ((c.len:Int) -(1:Int)))*6) 6/\
 let j:I:=aj b a.F (a.off+Int.toNat (cO ((c.len:Int) -(1:Int)))*6) [.i g,.i h,.i f,.s m,.s k,.s i]
 dV (nb::d) b j/\
 R (.tuple #[]) j)/\
 ((l==(24:Int))=false->
 aN bY 150 [vp z 0,vi (cO (p+(1:Int)))] e λ_ a=>
 dV (nb::d) e a/\
 ∃n:O,D a z 8=some (O.v n)/\
 let c:I:=a.push (.cells (br [.i g,.i h,.i o,.s m,.s k,.s i]) ez)
 D c z 8=D a z 8/\
 iP c ez [.i (0:Int),.i (0:Int),.i (0:Int),.s O.nil,.s O.nil,.s O.nil] 96 n (O.mk a.size 0 1 1) λq b=>
 dV (nb::d) c b/\
 fu b z 8 1/\
 let j:I:=aj b z 8 [.s q]
 dV (nb::d) b j/\
 R (.tuple #[]) j)
def Lu(S:ST G y m z bC (SB d p A bq C l) bq C l A.bq A.heap k w K H F B){bs:List Nat}(M:K6 y m bs){r:I}{h:a9}(N:rX m r q j s b h.av h.aV h.be)(ai:m.size<=nb/\nb<r.size)(v:nb≠q/\nb≠j/\nb≠s)
 (aE:k.length<=100000)(aH:0<=w.pc/\w.pc<=100000){Y:Value->I->Prop}
 (aw:g.op=24->∀e,vT G y m z d p {A with ak:=k++[{h with dst:=w.dst}]} e->Y (.tuple #[]) e)
 (ax:g.op≠24->∀e,vT G y m z d p {A with ak:=k++[{w with pc:=w.pc+1},h]} e->Y (.tuple #[]) e):
 Kj z nb bs g.op w.pc w.dst h.eU h.pc h.dst (.mk q 0 b b) (.mk j 0 b b) (.mk s 0 b b) r Y:=by
 have aF:=N.lo
 have aD:=S.ib.C0
 have L:cO ((l.len:Int) -1)=(k.length:Int):=by rw[aP V V];omega
 have e2:Int.toNat (k.length:Int)=k.length:=V
 have e4:cO (w.pc+1)=w.pc+1:=aP V V
 have aj:y nb=0:=S.eA.new _ ai.1
 have aG:=N.ext.size
 refine⟨λU=>?_,λU=>?_⟩
 ·intro P
  have W:rX m P q j s b h.av h.aV h.be:=⟨N.ext.aj ai.1 _ _,by simp only[P,az];omega,N.kr.congr (bn _ _ _ _ (λL=>v.1 L.symm)),N.ko.congr (bn _ _ _ _ (λL=>v.2.1 L.symm)),N.kh.congr (bn _ _ _ _ (λL=>v.2.2 L.symm)),N.len⟩
  have ad:P.size=r.size:=az _ _ _ _
  clear_value P
  have u:dA (λ_=>False) y m (pR y q j s k.length) P:=W.fe S.eA.new
  obtain⟨a1,a2,a3⟩:=W.qQ (a:=y) (u:=k.length)
  obtain⟨w1,w2,Q⟩:=S.ib.replace u (a:={h with dst:=w.dst}) a1 a2 a3
  obtain⟨T,aa⟩:=S.eA.jf (u.mono λ_=>False.elim) (S.eA.heap.fe u id id)
  have R:D P z 8=some (O.v l):=T.box.cy 8
  refine⟨l,R,l,R,?_⟩
  rw[L,e2]
  refine⟨V,V,w1,?_⟩
  intro ac
  obtain⟨Z,ab⟩:=T.kW (Q.mono λb X=>V) w2
  refine⟨?_,aw (by simpa using U) _ ⟨_,bq,C,l,Z,aa.trans ab⟩⟩
  intro t o
  rcases List.mem_cons.1 o with rfl|o
  ·refine Q.fw _ V ?_
   unfold pR;rw[eZ v.2.2,eZ v.2.1,eZ v.1,aj];decide
  ·refine Q.fw _ (by have:=(M t o).1;omega) ?_
   rw[u.iS t (M t o).1,(M t o).2];decide
 ·simp only[an]at U
  rw[e4]
  have u:dA (λ_=>False) y m (pR y q j s (k.length+1)) r:=N.fe S.eA.new
  obtain⟨a1,a2,a3⟩:=N.qQ (a:=y) (u:=k.length+1)
  obtain⟨au,aC⟩:=S.eA.jf (u.mono λ_=>False.elim) (S.eA.heap.fe u id id)
  have Q:ST G (pR y q j s (k.length+1)) r z bC (SB d p A bq C l) bq C l A.bq A.heap k w K H F B:=⟨au,S.ib.fe u λ_ _=>id⟩
  have ah:K6 (pR y q j s (k.length+1)) r (nb::bs):=λt o=>by
   rcases List.mem_cons.1 o with rfl|o
   ·refine⟨V,?_⟩;unfold pR;rw[eZ v.2.2,eZ v.2.1,eZ v.1,aj]
   ·exact⟨by have:=(M t o).1;omega,by rw[u.iS t (M t o).1];exact(M t o).2⟩
  apply nh (z,0)
  have R:D r z 8=some (O.v l):=Q.eA.box.cy 8
  refine⟨l,R,l,R,?_⟩
  rw[L,e2]
  refine⟨V,V,Q.ib.VY,?_⟩
  intro P
  obtain⟨T,ac⟩:=Q.Pe (w.pc+1)
  have av:dA (λb=>b=4) (pR y q j s (k.length+1)) r (pR y q j s (k.length+1)) P:=dA.aj Q.eA.new Q.ib.F.1 _ _
  have aq:=ah.to ac
  refine⟨ac.gD ah,l,T.eA.box.cy 8,?_⟩
  intro ab
  have aa:J P ab:=(J.aC P).aM _
  obtain⟨Z,ao⟩:=T.ext aa
  have ae:=aq.to ao
  have ay:fU ab P.size 0 [.i h.eU,.i h.pc,.i h.dst,.s (.mk q 0 b b),.s (.mk j 0 b b),.s (.mk s 0 b b)]:=(cD.push P _ _).jA
  have W:(k++[{w with pc:=w.pc+1}]).length=k.length+1:=E
  have ch:=λ{b:Nat}{A:O}{c:List Ce}(a:gY (pR y q j s (k.length+1)) r aB 1 b A c)(X:b≠4)=>(a.fe av X).fe (dA.fj (λ_=>False) aa T.eA.new) id
  refine⟨aa.dk (T.eA.box.cy 8),nu.push Z.eA.ak Z.eA.new (x:=.mk P.size 0 1 1) rfl (a:=h) ay (by rw[W];exact ch a1 V) (by rw[W];exact ch a2 V) (by rw[W];exact ch a3 V) (by rw[W];omega) λam al aA q1 q2=>?_⟩
  have ad:To _ ab am aA:=q2.mono λb X=>V
  obtain⟨af,aJ⟩:=Z.eA.kW (q2.mono λb X=>V) q1
  have ar:=ae.to ad
  refine⟨ad.gD ae,af.vO (i:=8) E,?_⟩
  intro aI
  obtain⟨ag,ap⟩:=af.nU 8 [.s al]
  refine⟨ap.gD ar,ax U _ ⟨am,bq,C,al,?_,(((aC.trans ac).trans ao).trans ad).trans ap⟩⟩
  have e9:k++[{w with pc:=w.pc+1}]++[h]=k++[{w with pc:=w.pc+1},h]:=E
  rw[e9]at ag
  exact ag
end
end
section
variable{a:cL}
noncomputable def oY (a:cL) (s:St) (b:List a9) (f:a9) (x:Instr):St:=
 if x.op=9 then{s with bG:=s.bG+1,ak:=b++[{f with pc:=f.pc+1},cv a x.bJ x.dst (dg f x.args)]}
 else if x.op=24 then{s with bG:=s.bG+1,ak:=b++[cv a x.bJ f.dst (dg f x.args)]}
 else{s with bG:=s.bG+1,heap:=apart s.heap (u f.av (u x.args 0)),ak:=b++[{f with pc:=f.pc+1},cv a ((aW s.heap (u f.av (u x.args 0))).lA -fH a) x.dst ((aW s.heap (u f.av (u x.args 0))).aI++[u f.av (u x.args 1)])]}
section
variable{v:I}{n:Nat->Nat}{m:I}{q:Nat}{d p bq t j:O}{b:St}{e:List a9}{c:a9}{r y h:O}{z:List (List Ce)}
def ST.rv(S:ST v n m q bC (SB d p b bq t j) bq t j b.bq b.heap e c r y h z)(g:eX v d p a)(k:b.bq.length<=2000000000)(i:b.heap.length<=2000000000)(f:jy m j (e++[c])):
 RV m q 2 d p bq t j a {b with ak:=e++[c]}:=
 ⟨g.ext S.eA.cF,S.eA.box.cy 0,S.eA.box.cy 1,S.eA.box.cy 2,S.eA.box.cy 3,S.eA.box.cy 4,S.eA.box.cy 5,S.eA.box.cy 6,S.eA.box.cy 7,S.eA.box.cy 8,S.eA.bq.pw V,S.eA.heap.cells V,f⟩
def nu.IU{e:List a9}(b:nu n m j e)(C:e.length<=2000000000)(t:∀c∈e,c.av.length<=1000000/\c.aV.length<=1000000/\c.be.length<=1000000):jy m j e:=by
 obtain⟨z,a,g,i,s⟩:=b;have v:j.len=e.length:=by have:=a.len;rw[cX i,g]at this;omega
 refine⟨v,a.le,V,λf x d=>?_⟩;obtain⟨q,o⟩:=ag (l:=z) (k:=f) (by rw[g];exact ax d);obtain⟨r,y,h,rfl,A,w,b⟩:=s f q x o d;obtain⟨D,E,F⟩:=t x (ar d);refine⟨_,⟨r,y,h,rfl,A.pw V,w.pw V,b.pw V⟩,λB p u=>?_⟩;have:=a.jA (f*6+B) p (gZ i o u);rwa[<-dE]at this
def J4(av:ST v n m q bC (SB d p b bq t j) bq t j b.bq b.heap e c r y h z)(aR:eX v d p a)(aI:lO a){A:Instr}{ah am:O}(ha:au v ah A.args)(bm:∀G∈A.args,0<=G/\G<c.av.length)(bO:A.args.length<=4)
 (bZ:A.op=9\/A.op=24\/A.op=11)(a3:(A.op=9\/A.op=24)->tF a A.bJ A.args.length)(bl:A.op=11->A.args.length=2/\CK a b.heap (u c.av (u A.args 0)))
 (bW:c.av.length=c.aV.length/\c.be.length=c.aV.length/\c.aV.length<=2000)(bk:∀N∈e,N.av.length<=1000000/\N.aV.length<=1000000/\N.be.length<=1000000)(bA:0<=c.pc/\c.pc<=100000)(bT:e.length<=10000)(bU:b.heap.length<=1000000000)(b0:b.bq.length<=1000000000)(bP:0<=b.bG/\b.bG<=100000)
 {F:Nat->Int}(hI:fq b.heap F):
 aN bY 147 [vp q 0,fv c r y h,xv A ah am] m λ_ Q=>vT v n m q d p (oY a b e c A) Q:=by
 apply tq (q,0)
 simp -zeta only[aE,aD]
 intro K m2
 have bE:J m m2:=((J.aC m).aM _).aM _
 have s1:K.size=m.size+1:=by simp[K]
 have s2:m2.size=m.size+2:=by simp[m2,s1]
 have B2:=K6.HB av.eA.new s1 s2
 have kB:cD m2 K.size dB [.i A.op,.i A.dst,.i A.bJ,.i A.bV,.s ah,.s am]:=cD.push K _ _
 obtain⟨S2,t2⟩:=av.ext bE
 clear_value m2
 have br:Ba a A:=λF=>let⟨B,h1,H,_⟩:=a3 F;⟨h1,B,H⟩
 have bN:(eD a.aY).length<=12:=by
  have:=qW aI.pC.types a.aY.length;rw[mF _ _ (ad _)]at this;exact this
 have bu:∀{n m t lh bx},ST v n m q bC bx bq t j b.bq lh e c r y h z->jy m j (e++[c]):=λav=>av.eA.ak.IU bF (λN C=>by
  rcases List.mem_append.1 C with C|C
  ·exact bk N C
  ·simp at C;subst C;omega)
 refine(pW (f:=c) (S2.IZ V) (ha.ext S2.eA.cF) bm V).mono ?_
 rintro _ m3 ⟨ws,rfl,ow,aH⟩
 obtain⟨S3,t3⟩:=S2.ext aH
 have B3:=B2.to t3
 have bD:(dg c A.args).length=A.args.length:=by simp[dg]
 have ay:au m3 ws (dg c A.args):=au.iC ow V
 have bK:∀{Q:I}{ws:O}{aC:List Ce},iZ Q m3 aB 1 ws aC->m.size<=Q.size->ws≠.nil->n ws.F=0:=λho hs ac=>by
  rcases ho.F with F|F
  ·exact absurd F ac
  ·exact av.eA.new _ V
 refine⟨t3.gD B2,ws,rfl,λN wv Q=>∃(aL:Nat->Nat)(a7:O)(ap:List bL)(C:List Int)(B:cY),ST v aL Q q bC (SB d p b bq a7 j) bq a7 j b.bq ap e c r y h z/\To n m aL Q/\K6 aL Q [K.size,m.size]/\cD Q K.size dB [.i A.op,.i A.dst,.i A.bJ,.i A.bV,.s ah,.s am]/\au Q wv C/\(C≠[]->aL wv.F=0)/\
  0<=N/\a.cB[N.toNat]? =some B/\C.length=B.params.length/\gG a A 0 C=gP B.cV 0 C/\
  (A.op=24->oY a b e c A={b with bG:=b.bG+1,heap:=ap,ak:=e++[cv a N c.dst C]})/\(A.op≠24->oY a b e c A={b with bG:=b.bG+1,heap:=ap,ak:=e++[{c with pc:=c.pc+1},cv a N A.dst C]}),?_,?_⟩
 ·refine⟨λaf=>?_,λaf=>?_⟩
  ·simp at af
   obtain⟨H,W,a8,b1,bz,a5,bR⟩:=bl af
   obtain⟨an,bB⟩:=cq W
   have aZ:=hI.cell _ (ar an)
   have b2:=(aZ.ov bB).2
   have a6:=ax an
   have bn:A.args=[u A.args 0,u A.args 1]:=by
    cases P:A.args with
    |nil=>rw[P]at H;simp at H
    |cons G aC=>cases aC with
     |nil=>rw[P]at H;simp at H
     |cons L aC=>cases aC with
      |nil=>rfl
      |cons _ _=>rw[P]at H;simp at H
   have a9:dg c A.args=[u c.av (u A.args 0),u c.av (u A.args 1)]:=by rw[bn];rfl
   have b4:=ay.len
   have b3:=ay.cap
   have gw:D m3 ws.F (ws.off+Int.toNat (0:Int)*1)=some (vi (u c.av (u A.args 0))):=ay.u (k:=0) (by rw[a9];rfl)
   have aj:=S3.rv aR V V (bu S3)
   generalize hw:u c.av (u A.args 0)=w at*
   generalize hv:u c.av (u A.args 1)=al at*
   obtain⟨B,hq⟩:=ag (l:=a.cB) (k:=((aW b.heap w).lA -fH a).toNat) V
   have ao:dF a ((aW b.heap w).lA -fH a)=B:=by simp[dF,hq]
   rw[ao]at bz a5
   refine⟨V,V,w,gw,d,aj.aY,(eS aj W.1 an).mono ?_⟩
   rintro _ m4 ⟨f4,rfl,bQ,ab⟩
   obtain⟨S4,t4⟩:=S3.ext ab
   have B4:=B3.to t4
   have a0:=aj.ext ab
   refine⟨t4.gD B3,_,_,_,rfl,ab.dk aj.aY,(oO a0.fP.aY aI.pC.types).mono ?_⟩
   rintro _ L ⟨rfl,aG⟩
   obtain⟨S,t5⟩:=S4.ext aG
   have B5:=B4.to t5
   have bj:=a0.ext aG
   refine⟨t5.gD B4,_,rfl,V,V,V,(eS bj W.1 an).mono ?_⟩
   rintro _ m6 ⟨f6,rfl,bt,aX⟩
   obtain⟨S6,t6⟩:=S.ext aX
   have B6:=B5.to t6
   have aF:=(ab.trans aG).trans aX
   have e1:(Int.toNat (1:Int))=1:=rfl
   have e2:(Int.toNat (ws.len:Int))=ws.len:=V
   rw[e1,e2]
   have bH:au m6 (O.cut ws 1 ws.len 1) [al]:=by
    have:=UX (ay.ext aF) (by rw[bD];omega);rw[a9]at this;exact this
   have bS:=aZ.fl
   refine⟨t6.gD B5,_,_,_,rfl,(Jj bt bH bF).mono ?_⟩
   rintro _ m7 ⟨R,rfl,oe,aY⟩
   obtain⟨S7,t7⟩:=S6.ext aY
   have X:=B6.to t7
   have ie:au m7 R ((aW b.heap w).aI++[al]):=au.iC oe bF
   have aw:n R.F=0:=by
    rcases oe.F with F|F
    ·subst F;have:=ie.len;simp at this
    ·exact av.eA.new _ (by have:=aF.size;have:=aH.size;omega)
   have bs:R.F<m7.size:=nv ie E
   refine⟨t7.gD B6,R,rfl,(yL S7.eA W hI V).mono ?_⟩
   rintro _ G ⟨ai,rfl,hb,M,bp,bo⟩
   have t8:To n m7 n G:=M.mono λY T=>V
   have Z:=X.to t8
   have a_:au G R ((aW b.heap w).aI++[al]):=mC ie λ_=>M.fw _ bs (by rw[aw];decide)
   have bb:To n m n G:=(((((t2.trans t3).trans t4).trans t5).trans t6).trans t7).trans t8
   have ba:cD G K.size dB [.i A.op,.i A.dst,.i A.bJ,.i A.bV,.s ah,.s am]:=(kB.ext (aH.trans (aF.trans aY))).congr (M.fw _ (X K.size E).1 (by rw[(X K.size E).2];decide))
   have e3:cO ((aW b.heap w).lA -((eD a.aY).length:Int))=(aW b.heap w).lA -fH a:=aP V V
   rw[e3]
   have aJ:gG a A 0 ((aW b.heap w).aI++[al])=gP B.cV 0 ((aW b.heap w).aI++[al]):=by
    rw[Dl V,List.length_eq_zero_iff.1 a5]
   have a4:∀ap,ap=apart b.heap w->oY a b e c A={b with bG:=b.bG+1,heap:=ap,ak:=e++[{c with pc:=c.pc+1},cv a ((aW b.heap w).lA -fH a) A.dst ((aW b.heap w).aI++[al])]}:=λap F=>by
    rw[oY,ae V,ae V,hw,hv,F]
   refine⟨t8.gD X,ai,rfl,λa2=>?_,λa1=>?_⟩
   ·have aK:=hb.1 a2
    obtain⟨U,bM⟩:=S7.jf (M.mono λY T=>Or.inl T) (bp a2)
    have bX:=U.eA.heap.len
    refine⟨t,U.eA.box.cy 7,?_⟩
    intro m9
    have bi:J G m9:=(J.aC G).aM _
    obtain⟨S9,t9⟩:=U.ext bi
    have B9:=Z.to t9
    clear_value m9
    have bV:=W.1
    have bw:ix w=(w -1000).toNat:=rfl
    have e5:cO (w -1000)=w -1000:=aP V V
    rw[e5,<-bw]
    refine⟨V,V,S9.eA.heap.wr (o:=0) a6 bd,?_⟩
    intro b5
    obtain⟨bv,bg⟩:=S9.eA.heap.setCell S9.eA.new a6 0 0 (d:=.mk G.size 0 0 0) (b:=[]) ⟨rfl,E,E,E⟩ (λac=>absurd rfl ac)
    obtain⟨aA,aO⟩:=S9.jf (bg.mono λY T=>Or.inl T) bv
    have aU:=B9.to aO
    refine⟨aO.gD B9,t,aA.eA.box.cy 7,(vr (aA.eA.heap.cells bF)).mono ?_⟩
    rintro _ b6 ⟨rfl,bh⟩
    obtain⟨aa,aQ⟩:=aA.ext bh
    have aV:=aU.to aQ
    refine⟨aQ.gD aU,_,rfl,aa.eA.vO (i:=7) E,?_⟩
    intro aM
    obtain⟨be,b7⟩:=aa.jf (dA.aC _ aa.eA.new) (aa.eA.heap.cut (rQ _ _))
    obtain⟨bf,aS⟩:=be.nU 7 [.s (t.cut 0 (jT (b.heap.set (ix w) jz) (b.heap.set (ix w) jz).length) 3)]
    have bc:=aV.to aS
    have aT:To n G n aM:=((t9.trans aO).trans aQ).trans aS
    have bI:au aM R ((aW b.heap w).aI++[al]):=mC a_ λ_=>aT.fw _ (by have:=M.size;omega) (by rw[aw];simp)
    have bJ:cD aM K.size dB [.i A.op,.i A.dst,.i A.bJ,.i A.bV,.s ah,.s am]:=ba.congr (aT.fw _ (Z K.size E).1 (by rw[(Z K.size E).2];simp))
    refine⟨aS.gD aV,n,_,_,_,B,bf,bb.trans aT,bc,bJ,bI,λ_=>aw,a8,hq,bF,aJ,λF=>V,λ_=>a4 _ ?_⟩
    rw[apart,aq aK];rfl
   ·have aK:(aW b.heap w).aQ≠1:=λF=>by have:=hb.2 F;rw[a1]at this;simp at this
    obtain⟨U,bM⟩:=S7.jf (M.mono λY T=>Or.inl T) (bo a1)
    refine⟨n,t,_,_,B,U,bb,Z,ba,a_,λ_=>aw,a8,hq,bF,aJ,λF=>V,λ_=>a4 _ ?_⟩
    rw[apart,ae aK]
  ·simp at af
   have G:A.op=9\/A.op=24:=V
   obtain⟨B,R,M,T⟩:=a3 G
   have ao:dF a A.bJ=B:=by simp[dF,M]
   refine⟨n,t,b.heap,dg c A.args,B,S3,t2.trans t3,B3,kB.ext aH,ay,λac=>bK ow V (λF=>by subst F;have:=ay.len;simp at this;exact ac (List.length_eq_zero_iff.1 this.symm)),R,M,V,by rw[Gp G,ao],λF=>?_,λF=>?_⟩
   ·rw[oY,ae V,aq F]
   ·rw[oY,aq V]
 ·rintro N wv m4 ⟨aA,aY,aT,C,B,S4,t4,B4,bg,aZ,bf,a_,hq,bj,aJ,a8,a9⟩
  have ao:dF a N=B:=by simp[dF,hq]
  have bi:=(aI.dh B (ar hq)).av
  have h3:=(aI.pC.dh B (ar hq)).1
  refine⟨b.bG,S4.eA.box.cy 4,S4.eA.vO (i:=4) E,?_⟩
  have e3:cO (b.bG+1)=b.bG+1:=aP V V
  rw[e3]
  intro L
  obtain⟨S,t5⟩:=S4.nU 4 [.i (b.bG+1)]
  have B5:K6 aA L [K.size,m.size]:=B4.to t5
  replace t5:To aA m4 aA L:=t5
  have c5:dA (λY=>Y=1) aA m4 aA L:=dA.aj S4.eA.new S4.eA.Pc _ _
  have a0:au L wv C:=mC aZ λac=>c5.fw _ (nv aZ ac) (by rw[bf ac];decide)
  have bh:cD L K.size dB [.i A.op,.i A.dst,.i A.bJ,.i A.bV,.s ah,.s am]:=bg.congr (c5.fw _ (B4 K.size E).1 (by rw[(B4 K.size E).2];decide))
  replace S:ST v aA L q bC (SB d p {b with bG:=b.bG+1,heap:=aT} bq aY j) bq aY j b.bq aT e c r y h z:=S
  refine⟨t5.gD B4,d,S.eA.box.cy 0,p,S.eA.box.cy 1,?_⟩
  clear_value L
  have a5:=t4.trans t5
  have kg:∀{M a2:I},J M a2->∀{ai aj:Nat}{al:Value},D M ai aj=some al->D a2 ai aj=D M ai aj:=λP=>P.dk
  have be:(gG a A 0 C).length=C.length:=Bq _ _ _ _
  have bc:(cv a N A.dst C).av=C++fJ (B.av.toNat -C.length):=by simp[cv,ao]
  have bb:(cv a N A.dst C).aV=gG a A 0 C++fJ (B.av.toNat -(gG a A 0 C).length):=by simp[cv,ao,aJ,lP]
  have ba:(cv a N A.dst C).be=fJ B.av.toNat:=by simp[cv,ao]
  have ij:∀(aa aG:I)(af U W X:Nat),J L aa->rX aa aG U W X B.av.toNat (C++fJ (B.av.toNat -C.length)) (gG a A 0 C++fJ (B.av.toNat -(gG a A 0 C).length)) (fJ B.av.toNat)->aa.size<=af/\af<aG.size->af≠U/\af≠W/\af≠X->
   Kj q af [K.size,m.size] A.op c.pc c.dst N 0 A.dst (.mk U 0 B.av.toNat B.av.toNat) (.mk W 0 B.av.toNat B.av.toNat) (.mk X 0 B.av.toNat B.av.toNat) aG (λ_ Q=>vT v n m q d p (oY a b e c A) Q):=λaa aG af U W X P R aS ac=>by
   obtain⟨SM,tM⟩:=S.ext P
   refine Lu (A:={b with bG:=b.bG+1,heap:=aT}) (h:=cv a N A.dst C) (g:=A) SM (B5.to tM) (by rw[bc,bb,ba];exact R) aS ac V bA (λF Q hF=>?_) (λF Q hF=>?_)
   ·rw[a8 F];exact vT.from hF (a5.trans tM)
   ·rw[a9 F];exact vT.from hF (a5.trans tM)
  have aM:∀{aa:I}{os:O},J L aa->au aa os (gG a A 0 C)->aN bY 73 [.agg #[O.v d,O.v p],vi N,vi A.dst,O.v wv,O.v os] aa _:=λP ho=>vI (aR.ext (S.eA.cF.trans P)) a_ hq V A.dst (a0.ext P) ho V be
  have aF:∀{M Z:I},J L M->J M Z->∀aj,aj<6->D Z K.size aj=D M K.size aj:=λh1 H aj hi=>by
   have Y:=bh.ext h1;match aj,hi with
   |0,_=>exact H.dk (Y.cy 0)
   |1,_=>exact H.dk (Y.cy 1)
   |2,_=>exact H.dk (Y.cy 2)
   |3,_=>exact H.dk (Y.cy 3)
   |4,_=>exact H.dk (Y.cy 4)
   |5,_=>exact H.dk (Y.cy 5)
  have HB:∀{M Z:I},J L M->J M Z->D Z q 0=D M q 0/\D Z q 1=D M q 1:=λh1 H=>⟨H.dk (h1.D (S.eA.box.cy 0)),H.dk (h1.D (S.eA.box.cy 1))⟩
  have a4:∀{aa:I},J L aa->oD 178 [vp q 0,xv A ah am,O.v wv] aa (gG a A 0 C):=λP=>Cf (aR.ext (S.eA.cF.trans P)) (P.D (S.eA.box.cy 0)) (P.D (S.eA.box.cy 1)) br ah am (a0.ext P) V
  have sm:∀{M Z:I},J L M->J M Z->dV [K.size,m.size] M Z:=λh1 H=>H.de λai hb=>h1.lt (B5 ai hb).1
  have aU:∀{M Z:I}{af:Nat},J L M->J M Z->af<M.size->dV [af,K.size,m.size] M Z:=λh1 H aS=>H.de λai hb=>by
   rcases List.mem_cons.1 hb with rfl|hb
   ·exact aS
   ·exact h1.lt (B5 ai hb).1
  refine⟨(a4 (J.aC _)).mono ?_,?_⟩
  ·rintro _ an ⟨os,rfl,oo,T⟩
   have io:au an os (gG a A 0 C):=au.iC oo V
   refine⟨sm (J.aC _) T,os,rfl,aF (J.aC _) T 1 V,(HB (J.aC _) T).1,(HB (J.aC _) T).2,?_,?_⟩
   ·refine(aM T io).mono ?_
    rintro _ aw ⟨U,W,X,rfl,R⟩
    have aO:=R.ext
    have aV:=T.trans aO
    refine⟨sm T aO,_,_,_,_,_,_,rfl,?_⟩
    intro a1
    have aQ:J aw a1:=(J.aC aw).aM _
    have G:=aF aV aQ
    have t9:=HB aV aQ
    refine⟨G 0 V,G 1 V,G 2 V,G 3 V,G 4 V,G 5 V,G 1 V,t9.1,t9.2,?_⟩
    intro aK
    have a6:J aw aK:=aQ.aj (ad _) _ _
    have bn:aK.size=aw.size+1:=by simp[aK,a1,az]
    have aX:=R.lo
    exact ij an aK aw.size U W X T (R.TY a6) ⟨by have:=aO.size;omega,V⟩ ⟨V,V,V⟩
   ·intro aK
    have aw:J an aK:=(J.aC an).aM _
    have a6:aK.size=an.size+1:=by simp[aK]
    have G:=aF T aw
    have t9:=HB T aw
    refine⟨G 0 V,G 1 V,G 2 V,G 3 V,G 4 V,G 5 V,G 1 V,t9.1,t9.2,?_⟩
    clear_value aK
    refine(aM (T.trans aw) (io.ext aw)).mono ?_
    rintro _ a1 ⟨U,W,X,rfl,R⟩
    have aO:=R.ext
    refine⟨aU (T.trans aw) aO V,_,_,_,_,_,_,rfl,?_⟩
    intro aQ
    have aX:=R.lo
    have aV:=R.box aw (nb:=an.size) (ad _) V 0 [.i N,.i 0,.i A.dst,.s (.mk U 0 B.av.toNat B.av.toNat),.s (.mk W 0 B.av.toNat B.av.toNat),.s (.mk X 0 B.av.toNat B.av.toNat)]
    exact ij an aQ an.size U W X T aV ⟨ad _,by simp only[aQ,az];have:=aO.size;omega⟩ ⟨V,V,V⟩
  ·intro an
   have T:J L an:=(J.aC L).aM _
   have a6:an.size=L.size+1:=by simp[an]
   have G:=aF (J.aC _) T
   have t9:=HB (J.aC _) T
   refine⟨G 0 V,G 1 V,G 2 V,G 3 V,G 4 V,G 5 V,G 1 V,t9.1,t9.2,?_⟩
   clear_value an
   refine(a4 T).mono ?_
   rintro _ aV ⟨os,rfl,oo,ab⟩
   have io:au aV os (gG a A 0 C):=au.iC oo V
   have aw:=T.trans ab
   have bn:=ab.size
   refine⟨aU T ab V,os,rfl,aF T ab 1 V,(HB T ab).1,(HB T ab).2,?_⟩
   refine(aM aw io).mono ?_
   rintro _ a1 ⟨U,W,X,rfl,R⟩
   have aK:=R.ext
   refine⟨aU aw aK V,_,_,_,_,_,_,rfl,?_⟩
   intro aO
   have aX:=R.lo
   have aQ:=R.box aw (nb:=L.size) (ad _) V 0 [.i N,.i 0,.i A.dst,.s (.mk U 0 B.av.toNat B.av.toNat),.s (.mk W 0 B.av.toNat B.av.toNat),.s (.mk X 0 B.av.toNat B.av.toNat)]
   exact ij L aO L.size U W X (J.aC _) aQ ⟨ad _,by simp only[aO,az];have:=aK.size;omega⟩ ⟨V,V,V⟩
def J8(S:ST v n m q bC (SB d p b bq t j) bq t j b.bq b.heap e c r y h z)(ai:e.length<=100000)(w:Int)(aa:∀g,e.getLast?=some g->0<=c.dst/\c.dst<g.av.length/\c.dst<g.aV.length):
 aN bY 148 [vp q 0,fv c r y h,vi w] m λ_ m'=>vT v n m q d p (match e.getLast? with|none=>{b with cR:=0,value:=w,ak:=[]}|some g=>{b with ak:=e.dropLast++[g.put c.dst w (iR w)]}) m':=by
 apply tr (q,0)
 simp -zeta only[aE,aD]
 intro f
 have ae:J m f:=(J.aC m).aM _
 have s1:f.size=m.size+1:=by simp[f]
 obtain⟨l,P⟩:=S.ext ae
 have U:n m.size=0:=S.eA.new _ (ad _)
 have G:K6 n f [m.size]:=λI L=>by simp at L;subst L;exact⟨V,U⟩
 clear_value f
 have M:=l.ib.C0
 have ag:=l.ib.qQ.le
 have B:cO ((j.len:Int) -1)=(e.length:Int):=by rw[aP V V];omega
 have R:Int.toNat (e.length:Int)=e.length:=V
 have K:D f q 8=some (O.v j):=l.eA.box.cy 8
 refine⟨j,K,j,K,?_⟩
 rw[B,R]
 refine⟨V,V,V,l.eA.vO (i:=8) E,?_⟩
 intro m2
 obtain⟨A,u⟩:=l.eA.nU 8 [.s (j.cut 0 e.length 6)]
 obtain⟨a,_⟩:=A.kW (dA.aC _ A.new) (A.ak.Uy)
 have x:=G.to u
 have ah:(j.cut 0 e.length 6).len=e.length:=by
  cases j with
  |nil=>simp at M
  |Bi I N k=>simp at M
  |mk I N o k=>simp[O.cut]
 have e3:Int.toNat (0:Int)=0:=rfl
 refine⟨u.gD G,j.cut 0 e.length 6,a.box.cy 8,λC=>?_,λC=>?_⟩
 ·simp at C
  have T:e=[]:=List.length_eq_zero_iff.1 V
  subst T
  refine⟨a.vO (i:=2) (by simp[ng]),?_⟩
  intro m3
  obtain⟨o,k⟩:=a.nU 2 [.i 0]
  have H:=x.to k
  refine⟨k.gD x,o.vO (i:=3) (by simp[ng]),?_⟩
  intro W
  obtain⟨Q,F⟩:=o.nU 3 [.i w]
  exact⟨F.gD H,n,bq,t,_,Q,(((P.trans u).trans k).trans F)⟩
 ·simp at C
  have ac:e.length≠0:=V
  have F:e≠[]:=λB=>ac (by rw[B];rfl)
  obtain⟨g,o⟩:∃g,e.getLast?=some g:=⟨_,lT F⟩
  obtain⟨W,X,Y⟩:=aa g o
  rw[o]
  simp only[]
  have ab:e=e.dropLast++[g]:=by
   rw[lT F]at o;simp at o;rw[<-o];exact(gW F).symm
  have H:AA v n m2 q bC (SB d p b bq t (j.cut 0 e.length 6)) bq t (j.cut 0 e.length 6) b.bq b.heap (e.dropLast++[g]):=
   ⟨a.cF,a.jW,a.new,a.box,a.Pc,a.bq,a.heap,by rw[<-ab];exact a.ak⟩
  obtain⟨r',N,h',af,T⟩:=H.ak.ib
  have Z:e.dropLast.length<=100000:=bF
  refine(rE (a:=b) ⟨H,T⟩ Z W X Y w).mono ?_
  rintro _ m3 ⟨Q,k⟩
  exact⟨k.gD x,n,bq,t,_,Q.eA,(P.trans u).trans k⟩
end
end
section
variable{b:cL}{a:Instr}{aV:List Int}
def Bb.HE{s:St}{d:List a9}{f:a9}(C:Bb b s d f a)(j:aV=dz f.av f.aV (dp b a))(i:∀o∈aV,0<=o):
 fq s.heap (λc=>eu d c+cz f.av aV c+dJ ((dp b a).map (u f.av)) c)/\∀c,0<=eu d c+cz f.av aV c:=by
 have e:=vx (av:=f.av) (dp b a) f.aV C.Pk C.JX.1
 rw[<-j]at e
 refine⟨C.ok.heap.congr λc=>?_,λc=>?_⟩
 ·rw[C.fr,eW,jI,e];omega
 ·have:=Dp (c:=d) (λg h=>C.ok.ak g (by rw[C.fr];exact bH _ h)) c
  have:=nO (av:=f.av) i c
  omega
def NL{a:List bO}{t lA:Int}(h:lA∈bU a t):1<=t/\t<=a.length/\(Da (bU a t) lA:Int)=lA -fc a (t.toNat -1)/\(fc a (t.toNat -1):Int)<=lA:=by
 unfold bU at h⊢;by_cases b:1<=t/\t<=a.length
 ·rw[aq b]at h⊢;obtain⟨d,e⟩:=ag (l:=a) (k:=t.toNat -1) V;rw[e]at h⊢;simp only[mq,tB]at h⊢;obtain⟨i,c,f⟩:=List.mem_map.1 h;rw[List.mem_range]at c;have g:Da ((List.range d.cons.length).map λi=>((fc a (t.toNat -1)+i:Nat):Int)) lA=i:=by
   unfold Da;rw[List.findIdx_eq (by simpa using c)];refine⟨by simp[<-f],λm j=>?_⟩;simp;omega
  rw[g];exact⟨b.1,b.2,V,V⟩
 ·rw[ae b]at h;simp at h
def LV{k d e:Int}(l:gF d)(o:gF e)(m:I):JI bY 144 [vi k,vi d,vi e] m (vi (Q0 k d e)):=by
 have i:∀n:Int,-2000000<=n/\n<=2000000->JI bY 173 [vi (cO n)] m (vi (Ib n)):=λn q=>by
  apply Ff;rw[aP V V];refine⟨?_,J.aC _⟩;unfold Ib;congr 1;repeat' split;all_goals omega
 unfold gF at l o;have p: -2000000<=d*e/\d*e<=2000000:=by
  have a:(d*e).natAbs<=999*999:=by rw[Int.natAbs_mul];exact Ri V V
  omega
 apply Ht;unfold Q0;refine⟨λa=>?_,λa=>⟨λb=>?_,λb=>⟨λc=>?_,λc=>⟨λf=>⟨λh=>?_,λh=>?_⟩,λf=>?_⟩⟩⟩⟩
 ·simp at a;rw[aq a];exact(i _ V).then λj g=>⟨_,rfl,rfl,g⟩
 ·simp at a b;rw[ae a,aq b];exact(i _ V).then λj g=>⟨_,rfl,rfl,g⟩
 ·simp at a b c;rw[ae a,ae b,aq c];exact(i _ p).then λj g=>⟨_,rfl,rfl,g⟩
 ·simp at a b c f h;rw[ae a,ae b,ae c,aq ⟨f,h⟩];exact⟨rfl,J.aC _⟩
 ·simp at a b c f h;rw[ae a,ae b,ae c,ae V];exact⟨rfl,J.aC _⟩
 ·simp at a b c f;rw[ae a,ae b,ae c,ae V];exact⟨rfl,J.aC _⟩
section
variable{q:I}{j:Nat->Nat}{m:I}{t:Nat}{d p bq n k:O}{c:St}{g:List a9}{f:a9}{r o h:O}{v:List (List Ce)}
def Hs(C:Bb b c g f a)(aA:aV=dz f.av f.aV (dp b a))(hM:sZ b c f a aV)
 (af:ST q j m t bC (SB d p c bq n k) bq n k c.bq c.heap g {f with aV:=aV} r o h v)(aT:eX q d p b){aw a1:O}(ha:au q aw a.args)(hj:au q a1 a.dR)(bo:c.heap.length<=900000000)(bz:c.bq.length<=900000000):
 aN bY 113 [vp t 0,fv f r o h,xv a aw a1] m λ_ X=>vT q j m t d p (jd b c g f a aV) X:=by
 apply rD (t,0)
 simp -zeta only[aE,aD]
 intro m1 F
 have bj:J m F:=((J.aC m).aM _).aM _
 have s1:m1.size=m.size+1:=by simp[m1]
 have s2:F.size=m.size+2:=by simp[F,s1]
 have H:=K6.HB af.eA.new s1 s2
 have kB:cD F m1.size dB [.i a.op,.i a.dst,.i a.bJ,.i a.bV,.s aw,.s a1]:=cD.push m1 _ _
 have kF:cD F m.size ez [.i f.eU,.i f.pc,.i f.dst,.s r,.s o,.s h]:=(cD.push m _ _).ext (J.push m1 _)
 obtain⟨z,t2⟩:=af.ext bj
 clear_value F
 have bw:aV.length=f.aV.length:=by rw[aA];exact pI _ _ _
 have bp:=C.JX
 have K:=C.OF
 have hd:=C.dst
 have bg:=C.F.pc
 obtain⟨pq,_,bh,hP,bm,hI⟩:=C.I
 rw[bh]at bg
 have bA:=hP.len
 have ao:0<=f.pc/\f.pc<=100000:=V
 have a5:=C.ok.ln
 have bl:=C.ok.bG
 have bs:=C.ok.dQ
 rw[C.fr]at a5
 have bn:g.length<=1000:=by simp at a5;omega
 have aU:f.av.length=aV.length/\f.be.length=aV.length/\aV.length<=2000:=V
 have bD:r.len=f.av.length:=by have:=af.ib.av.len;simp at this;omega
 have bu:o.len=aV.length:=by have:=af.ib.aV.len;simp at this;omega
 have bk:=ha.len
 have e4:cO (f.pc+1)=f.pc+1:=aP V V
 have ac:1<=a.args.length->0<=u a.args 0/\u a.args 0<f.av.length:=λP=>C.arg _ (il V V)
 have S:∀{X},J q X->1<=a.args.length->D X aw.F (aw.off+Int.toNat (0:Int)*1)=some (vi (u a.args 0)):=λhx P=>(ha.ext hx).EF V V
 have Z:∀{j m bx bq n k lo lh o h v own'},ST q j m t bC bx bq n k lo lh g {f with aV:=own'} r o h v->∀{aF:Int},0<=aF->aF<f.av.length->D m r.F (r.off+Int.toNat aF*1)=some (vi (u f.av aF)):=λaf aF h0 P=>(af.IZ (by simp only[];omega)).EF h0 P
 have a4:=C.HE aA hM.nn
 have be:∀{j m n lh bx},ST q j m t bC bx bq n k c.bq lh g {f with aV:=aV} r o h v->jy m k (g++[{f with aV:=aV}]):=λaf=>af.eA.ak.IU bF (λab L=>by
  rcases List.mem_append.1 L with L|L
  ·have hF:=C.ok.ak ab (by rw[C.fr];exact bH _ L);obtain⟨pg,_,ay,ap,_⟩:=hF.IB C.ok.fP;have P:=hF.lr;have T:=hF.lo;have h3:=hF.lh;rw[ay]at P T h3;have:=ap.av;omega
  ·simp at L;subst L;simp only[];omega)
 have a7:∀r',r'∈a.args->u f.av r'<1000->gF (u f.av r'):=λr' bi br=>by
  have az:=C.arg r' bi;rcases C.F.Oj _ (il az.1 az.2)with U|U
  ·exact U
  ·omega
 have a2:∀{ag:I}(hx:J F ag)(aa:Int)(s':St),s'={c with ak:=g++[a9.put {f with aV:=aV,pc:=f.pc+1} a.dst aa 0]}->
  aN bY 143 [vp t 0,vi a.dst,vi aa] ag λ_ X=>dV [m1.size,m.size] ag X/\vT q j m t d p s' X:=λhx aa s' w=>by
  obtain⟨SM,tM⟩:=z.ext hx
  refine(yH SM V hd.1 (by simp only[];omega) (by simp only[];omega) aa ao).mono ?_
  rintro _ X ⟨S',t'⟩
  exact⟨t'.gD (H.to tM),j,bq,n,k,by rw[w];exact S'.eA,(t2.trans tM).trans t'⟩
 have aS:∀{ag:I}(hx:J F ag)(aY:Int)(s':St),s'={c with ak:=g++[{f with aV:=aV,pc:=aY}]}->
  aN bY 150 [vp t 0,vi aY] ag λ_ X=>dV [m1.size,m.size] ag X/\vT q j m t d p s' X:=λhx aY s' w=>by
  obtain⟨SM,tM⟩:=z.ext hx
  refine(jg SM V aY).mono ?_
  rintro _ X ⟨S',t'⟩
  exact⟨t'.gD (H.to tM),j,bq,n,k,by rw[w];exact S'.eA,(t2.trans tM).trans t'⟩
 refine⟨λw=>?_,λe0=>?_⟩
 ·simp at w
  exact a2 (J.aC _) _ _ (by unfold jd;simp only[];rw[aq w])
 simp only[an]at e0
 refine⟨λw=>?_,λe1=>?_⟩
 ·simp only[cr,aL]at w
  have T:=K.2.2.1 V
  have y:=ac V
  have B:0<=u a.args 1/\u a.args 1<f.av.length:=C.arg _ (il V V)
  have M:=hM.pw V
  refine⟨V,V,_,S z.eA.cF V,y.1,V,_,Z z y.1 y.2,V,V,_,(ha.ext z.eA.cF).EF (i:=1) V V,B.1,V,_,Z z B.1 B.2,?_⟩
  refine(LV (a7 _ (il V V) (M _ (il V V))) (a7 _ (il V V) (M _ (il V V))) F).mono ?_
  rintro _ G ⟨rfl,A⟩
  refine⟨A.de (λY hb=>(H Y hb).1),_,rfl,A.dk (kB.cy 1),a2 A _ _ ?_⟩
  unfold jd;simp only[];rw[ae e0,aq w]
 simp only[bP,an]at e1
 have am:¬(a.op=1\/a.op=2\/a.op=3\/a.op=4):=V
 refine⟨λw=>?_,λe5=>?_⟩
 ·simp only[aL]at w
  have T:=K.2.1 V
  have y:=ac V
  have ai:(O.len bq)=c.bq.length:=by have:=z.eA.bq.len;simp at this;omega
  refine⟨bq,z.eA.box.cy 6,V,V,_,S z.eA.cF V,y.1,V,_,Z z y.1 y.2,?_⟩
  intro G
  have A:J F G:=(J.aC F).aM _
  have W:fU G F.size 0 [.i (u f.av (u a.args 0))]:=(cD.push F _ _).jA
  obtain⟨N,B⟩:=z.ext A
  have R:=H.to B
  clear_value G
  refine⟨A.dk (z.eA.box.cy 6),gY.append (zs:=[.i 0]) (x:=.mk F.size 0 1 1) (new:=[.i (u f.av (u a.args 0))]) N.eA.bq N.eA.new rfl W (by simp only[O.fZ];omega) λav aG m4 q1 q2=>?_⟩
  have ah:gY av m4 aB 1 2 aG ((c.bq++[u f.av (u a.args 0)]).map Ce.i):=by simpa using q1
  obtain⟨Q,M⟩:=N.I9 q2 ah
  have B4:=R.to M
  refine⟨M.gD R,Q.eA.vO (i:=6) E,?_⟩
  intro m5
  obtain⟨S5,t5⟩:=Q.nU 6 [.s aG]
  have B5:=B4.to t5
  refine⟨t5.gD B4,V,V,_,S S5.eA.cF V,y.1,V,_,Z S5 y.1 y.2,?_⟩
  refine(yH (a:={c with bq:=c.bq++[u f.av (u a.args 0)]}) S5 V hd.1 (by simp only[];omega) (by simp only[];omega) _ ao).mono ?_
  rintro _ m6 ⟨S6,t6⟩
  refine⟨t6.gD B5,av,aG,n,k,?_,(((t2.trans B).trans M).trans t5).trans t6⟩
  unfold jd;simp only[];rw[ae e0,ae am,aq w];exact S6.eA
 simp only[an]at e5
 have a8:∀aa∈f.be,aa≠0->1000<=aa/\ix aa<c.heap.length:=λaa hw aX=>by
  obtain⟨P,dd,bd,_⟩:=C.Ob aa hw aX;exact⟨P,ax bd⟩
 refine⟨λw=>?_,λe6=>?_⟩
 ·simp only[aL]at w
  have h6:=K.2.2.2.2.1 w
  refine(sO z ha C.arg K.1 a.bJ aU (by simp only[];omega) ⟨h6.1,h6.2.1⟩ ao V V a8).mono ?_
  rintro _ G ⟨al,aj,ai,ah,L3,B⟩
  refine⟨B.gD H,al,aj,ai,ah,?_,t2.trans B⟩
  have:jd b c g f a aV=uG c g {f with aV:=aV} a a.bJ:=by
   unfold jd uG;simp only[];rw[ae e0,ae am,ae e5,aq w];rfl
  rw[this];exact L3
 simp only[an]at e6
 refine⟨λw=>?_,λaR=>?_⟩
 ·simp only[aL]at w
  have aJ:=K.2.2.2.2.2.1 w
  have az:a.bV=0:=by rcases hI.bV with U|U;exact U;omega
  have aK:(eD b.aY).length<=12:=by
   have:=qW C.ok.fP.pC.types b.aY.length;rw[mF _ _ (ad _)]at this;exact this
  refine⟨d,z.eA.box.cy 0,(oO (aT.ext z.eA.cF).aY C.ok.fP.pC.types).mono ?_⟩
  rintro _ G ⟨rfl,A⟩
  obtain⟨N,B⟩:=z.ext A
  have R:=H.to B
  have e3:cO (((eD b.aY).length:Int)+a.bJ)=fH b+a.bJ:=aP V V
  refine⟨B.gD H,_,rfl,A.dk (kB.cy 2),A.dk (kB.cy 0),A.dk (kB.cy 1),A.dk (kB.cy 2),A.dk (kB.cy 3),A.dk (kB.cy 4),A.dk (kB.cy 5),A.dk (kF.cy 0),A.dk (kF.cy 1),A.dk (kF.cy 2),A.dk (kF.cy 3),A.dk (kF.cy 4),A.dk (kF.cy 5),?_⟩
  rw[e3]
  refine(sO N ha C.arg K.1 (fH b+a.bJ) aU (by simp only[];omega) (by rw[az];omega) ao V V a8).mono ?_
  rintro _ m4 ⟨av,aI,aC,aH,W,M⟩
  refine⟨M.gD R,av,aI,aC,aH,?_,(t2.trans B).trans M⟩
  have:jd b c g f a aV=uG c g {f with aV:=aV} a (fH b+a.bJ):=by
   unfold jd uG;simp only[];rw[ae e0,ae am,ae e5,ae e6,aq w,ae (λhh=>hh.1 az)];rfl
  rw[this];exact W
 simp only[an]at aR
 refine⟨λw=>?_,λe9=>?_⟩
 ·simp only[cr,aL]at w
  have W:=hI.op
  unfold lD at W
  refine(J4 z aT C.ok.fP ha C.arg K.1 V (λe'=>?_) (λe'=>⟨K.2.2.1 V,hM.apply e'⟩) aU (λab L=>?_) ao V V V V C.ok.heap).mono ?_
  ·rw[ae V,ae V,ae V,ae V,aq e']at W;exact W
  ·have hF:=C.ok.ak ab (by rw[C.fr];exact bH _ L)
   obtain⟨pg,_,ay,ap,_⟩:=hF.IB C.ok.fP
   have P:=hF.lr
   have T:=hF.lo
   have h3:=hF.lh
   rw[ay]at P T h3
   have:=ap.av
   omega
  rintro _ G ⟨al,aj,ai,ah,L3,B⟩
  refine⟨B.gD H,al,aj,ai,ah,?_,t2.trans B⟩
  have:jd b c g f a aV=oY b c g {f with aV:=aV} a:=by
   unfold jd oY;simp only[];rw[ae e0,ae am,ae e5,ae e6,ae aR,ae V,ae V,ae V,ae V,ae V,ae V,ae V,ae V];by_cases e9:a.op=9
   ·rw[aq e9,aq e9];rfl
   ·rw[ae e9,ae e9];by_cases ap:a.op=24
    ·rw[aq ap,aq ap];rfl
    ·rw[ae ap,ae ap,aq V]
  rw[this];exact L3
 simp only[bP,an]at e9
 refine⟨λw=>?_,λba=>?_⟩
 ·simp only[aL]at w
  have T:=K.2.1 V
  have y:=ac V
  refine⟨V,V,_,S z.eA.cF V,y.1,V,_,Z z y.1 y.2,(J8 z V (u f.av (u a.args 0)) (λab L=>?_)).mono ?_⟩
  ·have aX:g≠[]:=λw=>by rw[w]at L;simp at L
   have ap:g=g.dropLast++[ab]:=by
    rw[lT aX]at L;simp at L;rw[<-L];exact(gW aX).symm
   have aH:g.length=g.dropLast.length+1:=by
    have:=rT List.length ap;simpa using this
   obtain⟨q1,q2,q3⟩:=C.ok.chain g.dropLast.length ab f (by rw[C.fr,ap];simp) (by rw[C.fr,<-aH];simp)
   have ay:=C.ok.ak ab (by rw[C.fr,ap];simp)
   have:=ay.lr
   have:=ay.lo
   exact⟨q1,by show f.dst<_;omega,by show f.dst<_;omega⟩
  rintro _ G ⟨al,aj,ai,ah,L3,B⟩
  refine⟨B.gD H,al,aj,ai,ah,?_,t2.trans B⟩
  unfold jd
  simp only[]
  rw[ae e0,ae am,ae e5,ae e6,ae aR,ae V,ae V,ae V,ae V,ae V,ae V,ae V,ae V,ae V,ae V,ae V]
  exact L3
 simp only[an]at ba
 have bf:∀(ap:St),(if a.op=0 then ap else ap)=ap:=λap=>by split<;>rfl
 have Mk:jd b c g f a aV=(
  if a.op=14 then{c with heap:=nE c.heap (u f.av (u a.args 0)),ak:=g++[{f with aV:=gU aV (u a.args 0) (u aV (u a.args 0)+1),pc:=f.pc+1}]}
  else if a.op=15 then{c with heap:=pY (iA c.heap [u f.av (u a.args 0)]),ak:=g++[{f with aV:=aV,pc:=f.pc+1}]}
  else if a.op=16\/a.op=17 then IL c g {f with aV:=aV} a
  else if a.op=18 then{c with ak:=g++[a9.put {f with aV:=aV,pc:=f.pc+1} a.dst (u f.av (u a.args 0)) (iR (u f.av (u a.args 0)))]}
  else if a.op=19 then{c with ak:=g++[a9.put {f with aV:=aV,pc:=f.pc+1} a.dst (u (aW c.heap (u f.av (u a.args 0))).aI a.bJ) 0]}
  else if a.op=20 then{c with ak:=g++[{f with aV:=aV,pc:=if u f.av (u a.args 0)=0 then a.bJ else f.pc+1}]}
  else if a.op=21 then{c with ak:=g++[{f with aV:=aV,pc:=u a.dR (Da (bU b.aY a.bJ) (aW c.heap (u f.av (u a.args 0))).lA)}]}
  else{c with ak:=g++[{f with aV:=aV,pc:=a.bJ}]}):=by
  unfold jd
  simp only[]
  rw[ae e0,ae am,ae e5,ae e6,ae aR]
  by_cases aH:a.op=14
  ·rw[aq aH,aq aH]
  rw[ae aH,ae aH]
  by_cases aI:a.op=15
  ·rw[aq aI,aq aI]
  rw[ae aI,ae aI]
  by_cases aJ:a.op=16\/a.op=17
  ·rw[aq aJ,aq aJ];rfl
  rw[ae aJ,ae aJ]
  by_cases aK:a.op=18
  ·rw[aq aK,aq aK]
  rw[ae aK,ae aK]
  by_cases aM:a.op=19
  ·rw[aq aM,aq aM]
  rw[ae aM,ae aM]
  by_cases aO:a.op=20
  ·rw[aq aO,aq aO]
  rw[ae aO,ae aO]
  by_cases aQ:a.op=21
  ·rw[aq aQ,aq aQ]
  rw[ae aQ,ae aQ]
  have:=C.XW
  rw[aq V]
 rw[Mk]
 clear Mk bf
 refine⟨λw=>?_,λa3=>?_⟩
 ·simp only[aL]at w
  rw[aq w]
  have T:=K.2.1 V
  have y:=ac V
  obtain⟨ab,bt⟩:=hM.Wa w
  obtain⟨bc,bB⟩:=cq ab
  refine⟨V,V,_,S z.eA.cF V,y.1,V,_,Z z y.1 y.2,?_⟩
  intro G
  have A:J F G:=(J.aC F).aM _
  have ow:iZ F G aB 1 (.mk F.size 0 1 1) ([u f.av (u a.args 0)].map Ce.i):=iZ.new (J.aC F) aB 1 _ 1 E
  obtain⟨N,B⟩:=z.ext A
  have R:=H.to B
  have hz:j F.size=0:=z.eA.new _ (ad _)
  clear_value G
  refine(AO N.eA (au.iC ow E) (λ_=>hz) (λaa hw=>?_) (λa_ hc=>?_) E V).mono ?_
  ·simp at hw;subst hw;exact⟨ab.1,ax bc⟩
  ·have:=C.ok.heap.cell a_ hc;have U:=this.lo;have h6:=this.hi;omega
  rintro _ m4 ⟨aZ,c4⟩
  obtain⟨Q,M⟩:=N.jf (c4.mono λap hk=>Or.inl hk) aZ
  have B4:=R.to M
  have ay:u a.args 0<aV.length:=V
  have bv:0<=u aV (u a.args 0)/\u aV (u a.args 0)<=999999:=by
   have hm:=il (l:=aV) y.1 ay;refine⟨hM.nn _ hm,?_⟩;have L:=qR (l:=aV) y.1 ay;rw[aA]at L;obtain⟨qq,a0,a6⟩:=rL _ _ _ _ L;have:=(C.Ub qq (ar a0)).2;rw[<-aA]at a6;omega
  have bb:cO (u aV (u a.args 0)+1)=u aV (u a.args 0)+1:=aP V V
  refine⟨M.gD R,V,V,_,S Q.eA.cF V,V,V,_,S Q.eA.cF V,y.1,V,u aV (u a.args 0),(Q.QX (by simp only[];omega)).EF y.1 ay,y.1,V,Q.ib.aV.P1 y.1 ay,?_⟩
  rw[bb,e4]
  intro m5
  obtain⟨S5,t5⟩:=Q.xG y.1 ay (u aV (u a.args 0)+1)
  have B5:=B4.to t5
  refine⟨t5.gD B4,(jg (a:={c with heap:=j8 c.heap [u f.av (u a.args 0)]}) S5 V (f.pc+1)).mono ?_⟩
  rintro _ m6 ⟨S6,t6⟩
  exact⟨t6.gD B5,j,bq,n,k,S6.eA,(((t2.trans B).trans M).trans t5).trans t6⟩
 simp only[an]at a3
 rw[ae a3]
 have a_:a.args.length=1->a.args=[u a.args 0]:=λP=>by
  cases hx:a.args with
  |nil=>rw[hx]at P;simp at P
  |cons ay L=>cases L with
   |nil=>rfl
   |cons bb L=>rw[hx]at P;simp at P
 refine⟨λw=>?_,λay=>?_⟩
 ·simp only[aL]at w
  rw[aq w]
  have T:=K.2.1 V
  have y:=ac V
  have ht:dp b a=[u a.args 0]:=by unfold dp;rw[aq V];exact a_ V
  have L:=a4.1
  rw[ht]at L
  refine⟨n,z.eA.box.cy 7,V,V,_,S z.eA.cF V,y.1,V,_,Z z y.1 y.2,?_⟩
  intro G
  have A:J F G:=(J.aC F).aM _
  have ow:iZ F G aB 1 (.mk F.size 0 1 1) ([u f.av (u a.args 0)].map Ce.i):=iZ.new (J.aC F) aB 1 _ 1 E
  obtain⟨N,B⟩:=z.ext A
  have R:=H.to B
  clear_value G
  refine⟨A.dk (z.eA.box.cy 7),(DG N.eA.heap N.eA.new (au.iC ow E) (e:=λY=>eu g Y+cz f.av aV Y) (L.congr λY=>rfl) a4.2 V).mono ?_⟩
  rintro _ m4 ⟨av,aC,rfl,aZ,c4⟩
  obtain⟨Q,M⟩:=N.jf c4 aZ
  have B4:=R.to M
  refine⟨M.gD R,aC,rfl,Q.eA.vO (i:=7) E,?_⟩
  intro m5
  obtain⟨S5,t5⟩:=Q.nU 7 [.s aC]
  have B5:=B4.to t5
  rw[e4]
  refine⟨t5.gD B4,(jg (a:={c with heap:=pY (iA c.heap [u f.av (u a.args 0)])}) S5 V (f.pc+1)).mono ?_⟩
  rintro _ m6 ⟨S6,t6⟩
  exact⟨t6.gD B5,av,bq,aC,k,S6.eA,(((t2.trans B).trans M).trans t5).trans t6⟩
 simp only[an]at ay
 rw[ae ay]
 refine⟨λw=>?_,λav=>?_⟩
 ·simp only[cr,aL]at w
  rw[aq w]
  refine(FD z ha C.arg ⟨K.2.2.2.1 w,K.1⟩ w aU ao V V (λaG L=>?_) (hM.QU w).1 C.ok.heap).mono ?_
  ·refine⟨hM.nn aG L,?_⟩
   obtain⟨ap,hk⟩:=List.mem_iff_getElem?.1 L
   simp only[]at hk
   rw[aA]at hk
   obtain⟨qq,a0,a6⟩:=rL _ _ _ _ hk
   have:=(C.Ub qq (ar a0)).2
   omega
  rintro _ G ⟨al,aj,ai,ah,L3,B⟩
  exact⟨B.gD H,al,aj,ai,ah,L3,t2.trans B⟩
 simp only[bP,an]at av
 rw[ae V]
 refine⟨λw=>?_,λah=>?_⟩
 ·simp only[aL]at w
  rw[aq w]
  have T:=K.2.1 V
  have y:=ac V
  refine⟨V,V,_,S z.eA.cF V,y.1,V,_,Z z y.1 y.2,(rE z V hd.1 (by simp only[];omega) (by simp only[];omega) _).mono ?_⟩
  rintro _ G ⟨N,B⟩
  have R:=H.to B
  rw[e4]
  refine⟨B.gD H,(jg N V (f.pc+1)).mono ?_⟩
  rintro _ m4 ⟨Q,M⟩
  exact⟨M.gD R,j,bq,n,k,Q.eA,(t2.trans B).trans M⟩
 simp only[an]at ah
 rw[ae ah]
 have R:=z.rv aT V V (be z)
 refine⟨λw=>?_,λM=>?_⟩
 ·simp only[aL]at w
  rw[aq w]
  have T:=K.2.1 V
  have y:=ac V
  obtain⟨ab,B⟩:=hM.load w
  have W:=hI.op
  unfold lD at W
  rw[ae V,ae V,ae V,ae V,ae V,ae V,ae V,aq w]at W
  refine⟨V,V,_,S z.eA.cF V,y.1,V,_,Z z y.1 y.2,(eS R ab.1 (cq ab).1).mono ?_⟩
  rintro _ G ⟨fl,rfl,L,A⟩
  have N:=L.len
  refine⟨A.de (λY hb=>(H Y hb).1),_,_,_,rfl,A.dk (kB.cy 2),A.dk (kB.cy 1),W.2.1,V,_,L.EF W.2.1 B,a2 A _ _ rfl⟩
 simp only[an]at M
 rw[ae M]
 refine⟨λw=>?_,λN=>?_⟩
 ·simp only[aL]at w
  rw[aq w]
  have T:=K.2.1 V
  have y:=ac V
  refine⟨V,V,_,S z.eA.cF V,y.1,V,_,Z z y.1 y.2,λU=>?_,λU=>?_⟩
  ·simp at U;exact aS (J.aC _) _ _ (by rw[aq U])
  ·simp at U;rw[e4];exact aS (J.aC _) _ _ (by rw[ae U])
 simp only[an]at N
 rw[ae N]
 refine⟨λw=>?_,λQ=>?_⟩
 ·simp only[aL]at w
  rw[aq w]
  have T:=K.2.1 V
  have y:=ac V
  obtain⟨ab,ai⟩:=hM.Mb w
  obtain⟨bc,bt,aZ,aG⟩:=NL ai
  have W:=hI.op
  unfold lD at W
  rw[ae V,ae V,ae V,ae V,ae V,ae V,ae V,ae V,ae V,ae V,aq w]at W
  have a0:Da (bU b.aY a.bJ) (aW c.heap (u f.av (u a.args 0))).lA<(bU b.aY a.bJ).length:=Nx ⟨_,ai,E⟩
  have bb:=hj.len
  have a6:=W.2.2.1
  have aC:=(C.ok.heap.cell _ (ar (cq ab).1)).ov (cq ab).2
  have bv:=C.ok.fP.pC.types.len
  refine⟨V,V,_,S z.eA.cF V,y.1,V,_,Z z y.1 y.2,(eS R ab.1 (cq ab).1).mono ?_⟩
  rintro _ G ⟨fl,rfl,L,A⟩
  have e7:cO (a.bJ -1)=((a.bJ.toNat -1:Nat):Int):=by rw[aP V V];omega
  rw[e7]
  have aj:=z.eA.cF.trans A
  refine⟨A.de (λY hb=>(H Y hb).1),_,_,_,rfl,d,A.D (z.eA.box.cy 0),(jr (aT.ext aj).aY C.ok.fP.pC.types V).mono ?_⟩
  rintro _ m4 ⟨rfl,B⟩
  have al:=A.trans B
  have e8:cO ((aW c.heap (u f.av (u a.args 0))).lA -((fc b.aY (a.bJ.toNat -1):Nat):Int))=((Da (bU b.aY a.bJ) (aW c.heap (u f.av (u a.args 0))).lA:Nat):Int):=by
   rw[aP V V];omega
  refine⟨B.de (λY hb=>A.lt (H Y hb).1),_,rfl,B.dk ((kB.ext A).cy 5),?_⟩
  rw[e8]
  refine⟨V,V,_,(hj.ext (aj.trans B)).EF V V,aS al _ _ rfl⟩
 simp only[an]at Q
 rw[ae Q]
 refine⟨λw=>aS (J.aC _) _ _ rfl,λy=>?_⟩
 simp only[an]at y
 have:=C.XW
 omega
end
end
section
def Q2(l a:List Int)(h:a.length=l.length):iD (l.map Ce.i) 0 (a.map Ce.i)=a.map Ce.i:=by
 have:=zp [] (a.map Ce.i) (l.map Ce.i) bF;simp only[dS,eG]at this;rw[this,FY bF,gV]
section
variable{p:I}{b:Nat->Nat}{m:I}{q e:Nat}{i:List Ce}{bq j g:O}{l:List Int}{k:List bL}{c:List a9}{f:a9}{r a h:O}{d:List (List Ce)}
def ST.RH(S:ST p b m q e i bq j g l k c f r a h d){aV:List Int}(t:aV.length=f.aV.length)(w:0<aV.length):fu m a.F a.off (aV.map Ce.i).length/\ST p b (aj m a.F a.off (aV.map Ce.i)) q e i bq j g l k c {f with aV:=aV} r a h d/\To b m b (aj m a.F a.off (aV.map Ce.i)):=by
 have T:=S.ib;have B:a.cap≠0:=λe=>by have:=(T.aV.CU e).1;simp at this;rw[this]at t;simp at t;rw[t]at w;simp at w
 have A:=T.aV.F B;have s:dA (λu=>u=11+3*c.length) b m b (aj m a.F a.off (aV.map Ce.i)):=dA.aj S.eA.new A.2 _ _;have x:=T.aV.set (o:=0) (new:=aV.map Ce.i) bF;rw[Q2 _ _ t,iJ]at x;have v:qO b (aj m a.F a.off (aV.map Ce.i)) g c {f with aV:=aV} r a h d:=⟨T.qQ.fe s V,T.len,T.size,T.vD s λu _ y=>V,T.av.fe s V,x,T.be.fe s V⟩;obtain⟨y,z⟩:=S.eA.kW (s.mono λu C=>V) v.rV;refine⟨?_,⟨y,v⟩,z⟩;have:=T.aV.wr (o:=0) (n:=(aV.map Ce.i).length) bF;rw[iJ]at this;exact this
end
section
variable{h:I}{e:Nat->Nat}{b:I}{g:Nat}{d p bq c a:O}{s:St}
def LX{k:cL}(P:AA h e b g bC (SB d p s bq c a) bq c a s.bq s.heap s.ak)(L:eX h d p k)(z:cA k s)(aL:∀R∈s.ak,∀A∈R.av,A<=9223372036854775807)(aO:s.heap.length<=900000000)(aU:s.bq.length<=900000000):
 aN bY 74 [vp g 0] b λ_ m'=>vT h e b g d p (rI k s) m':=by
 apply um (g,0)
 simp -zeta only[aE,aD]
 refine⟨s.cR,P.box.cy 2,λW=>?_,λW=>?_⟩
 ·simp at W
  rw[vw W]
  exact⟨e,bq,c,a,P,dA.aC _ P.new⟩
 have ac:s.cR=3:=by simpa using W
 obtain⟨n,j,u⟩:=z.split ac
 have aR:s.ak.getLast?=some j:=by rw[u];simp
 have aJ:s.ak.dropLast=n:=by rw[u];simp
 have C:Bb k s n j (fg k j):=⟨z,ac,u,rfl,aL⟩
 have aZ:rI k s=(open Classical in if uO (fg k j).op/\s.bG=s.dQ then{s with cR:=1}else if sZ k s j (fg k j) (dz j.av j.aV (dp k (fg k j)))then jd k s n j (fg k j) (dz j.av j.aV (dp k (fg k j)))else{s with cR:=2}):=by
  unfold rI;rw[ae (by simpa using ac),aR,aJ]
 rw[aZ]
 generalize fg k j=x at*
 have L':AA h e b g bC (SB d p s bq c a) bq c a s.bq s.heap (n++[j]):=by rw[<-u];exact P
 obtain⟨X,N,U,aA,aa⟩:=L'.ak.ib
 have S:ST h e b g bC (SB d p s bq c a) bq c a s.bq s.heap n j X N U aA:=⟨L',aa⟩
 have a7:=aa.C0
 have an:=z.ln
 have a6:=z.bG
 have a9:=z.dQ
 rw[u]at an
 have a8:n.length<=1000:=by simp at an;omega
 have e1:cO ((a.len:Int) -1)=(n.length:Int):=by rw[aP V V];omega
 have e2:Int.toNat (n.length:Int)=n.length:=V
 have T:D b g 8=some (O.v a):=S.eA.box.cy 8
 obtain⟨g0,g1,g2,g3,g4,g5⟩:=aa.jA
 refine⟨a,T,a,T,?_⟩
 rw[e1,e2]
 refine⟨V,V,_,g0,_,g1,_,g2,X,g3,N,g4,U,g5,?_⟩
 intro m1
 have v:J b m1:=(J.aC b).aM _
 refine⟨v.dk g0,v.dk g1,v.dk g2,v.dk g3,v.dk g4,v.dk g5,v.dk T,v.dk T,?_⟩
 intro t
 have a0:J b t:=v.aj (ad _) _ _
 have s2:t.size=b.size+1:=by simp[t,m1,az]
 have kF:cD t b.size ez [.i j.eU,.i j.pc,.i j.dst,.s X,.s N,.s U]:=cD.aj (m:=m1) (o:=0) (r:=[.i j.eU,.i j.pc,.i j.dst,.s X,.s N,.s U]) (cD.push b _ _)
 obtain⟨Q,t2⟩:=S.ext a0
 clear_value t
 obtain⟨bf,hq,aX,hP,aI,hI⟩:=C.I
 obtain⟨pa,pl,pc,a_,bb,ap,k0,k1,k2,k3,k4⟩:=L.cB.u hq
 obtain⟨ay,a1,ha,hj,i0,i1,i2,i3,i4,i5⟩:=ap.u aI
 have bc:=L.cB.len
 have ba:=ap.len
 have hF:=C.F
 have aW:=hF.eU
 have ao:=hF.pc
 rw[aX]at ao
 have l:=Q.eA.cF
 refine⟨p,Q.eA.box.cy 1,aW.1,V,pc,l.D k4,ao.1,V,_,l.D i0,_,l.D i1,_,l.D i2,_,l.D i3,ay,l.D i4,a1,l.D i5,?_⟩
 intro m3
 have q:J t m3:=(J.aC t).aM _
 refine⟨q.dk (l.D i0),q.dk (l.D i1),q.dk (l.D i2),q.dk (l.D i3),q.dk (l.D i4),q.dk (l.D i5),q.dk (kF.cy 1),q.dk (l.D k4),q.dk (kF.cy 0),q.dk (Q.eA.box.cy 1),?_⟩
 intro M
 have ag:J t M:=q.aj (ad _) _ _
 have s4:M.size=t.size+1:=by simp[M,m3,az]
 obtain⟨S4,t4⟩:=Q.ext ag
 have a2:=kF.ext ag
 have B4:K6 e M [t.size,b.size]:=λaf K=>by
  simp at K;rcases K with rfl|rfl
  ·exact⟨V,S.eA.new _ V⟩
  ·exact⟨V,S.eA.new _ (ad _)⟩
 clear_value M
 have a5:=t2.trans t4
 refine(Jn _ _).mono ?_
 rintro _ m5 ⟨af,rfl,K,ah⟩
 obtain⟨w,t5⟩:=S4.ext ah
 have Y:=B4.to t5
 have B:=a2.ext ah
 have ar:=a5.trans t5
 have aQ:=C.JX
 have h4:=C.OF
 have ab:(dz j.av j.aV (dp k x)).length=j.aV.length:=pI _ _ _
 refine⟨t5.gD B4,af,rfl,λaG=>⟨s.bG,w.eA.box.cy 4,s.dQ,w.eA.box.cy 5,λI=>?_,λI=>?_⟩,λaF=>?_⟩
 ·simp at I
  refine⟨w.eA.vO (i:=2) E,?_⟩
  intro m6
  obtain⟨H,F⟩:=w.nU 2 [.i 1]
  refine⟨F.gD Y,e,bq,c,a,?_,ar.trans F⟩
  rw[aq ⟨K.1 aG,I⟩]
  have:=H.eA
  rw[<-u]at this
  exact this
 all_goals
  have aH:¬(uO x.op/\s.bG=s.dQ):=by
   first
   |exactλy=>by simp at I;exact I y.2
   |exactλy=>Vc.fb K aF y.1
  rw[ae aH]
  have am:=w.eA.cF
  refine⟨d,w.eA.box.cy 0,p,w.eA.box.cy 1,(Hz (L.ext am) C.call (ha.ext am) V h4.2.2.2.1).mono ?_⟩
  rintro _ m6 ⟨ts,rfl,ot,y⟩
  obtain⟨H,F⟩:=w.ext y
  have B6:=Y.to F
  have bd:=PR k x
  have it:au m6 ts (dp k x):=au.iC ot V
  refine⟨F.gD Y,ts,rfl,y.dk (B.cy 0),y.dk (B.cy 1),y.dk (B.cy 2),y.dk (B.cy 3),y.dk (B.cy 4),y.dk (B.cy 5),?_⟩
  refine(FE (f:=j) (H.IZ V) (H.QX V) it C.Pk aQ.1 V V (λA G=>by have:=C.Ub A G;omega)).mono ?_
  rintro _ m7 ⟨os,rfl,oo,aC⟩
  obtain⟨A,t7⟩:=H.ext aC
  have B7:=B6.to t7
  have io:au m7 os (dz j.av j.aV (dp k x)):=au.iC oo V
  have aM:jy m7 a (n++[j]):=A.eA.ak.IU bF (λR hg=>by
   have G:=z.ak R (by rw[u];exact hg);obtain⟨pg,_,ai,Z,_⟩:=G.IB z.fP;have q1:=G.lr;have q2:=G.lo;have q3:=G.lh;rw[ai]at q1 q2 q3;have:=Z.av;omega)
  have aj:=A.rv L V V aM
  have aY:({s with ak:=n++[j]}:St)=s:=by rw[<-u]
  rw[aY]at aj
  refine⟨t7.gD B6,os,rfl,(Jq aj C (A.IZ V) (A.QG V) (ha.ext A.eA.cF) io ab).mono ?_⟩
  rintro _ m8 ⟨b2,rfl,al,ai⟩
  obtain⟨R,t8⟩:=A.ext ai
  have Z:=B7.to t8
  have av:=((ar.trans F).trans t7).trans t8
  refine⟨t8.gD B7,b2,rfl,λh9=>?_,λh9=>?_⟩
  ·rw[ae (Vc.nb al h9)]
   refine⟨R.eA.vO (i:=2) E,?_⟩
   intro m9
   obtain⟨S9,G⟩:=R.nU 2 [.i 2]
   refine⟨G.gD Z,e,bq,c,a,?_,av.trans G⟩
   have:=S9.eA
   rw[<-u]at this
   exact this
  ·have hM:=Vc.yb al h9
   rw[aq hM]
   have aT:=io.len
   have aS:N.len=j.aV.length:=by have:=R.ib.aV.len;simp at this;omega
   obtain⟨w1,S9,G⟩:=R.RH ab V
   refine⟨(dz j.av j.aV (dp k x)).map Ce.i,by rw[aT,aS,ab];simp[Nat.min_def];omega,(io.ext ai).Ol,w1,?_⟩
   intro m9
   have B9:=Z.to G
   refine⟨G.gD Z,(Hs C rfl hM S9 L ha hj aO aU).mono ?_⟩
   rintro _ be aK
   obtain⟨a4,a3,aV,aB,ax,aw⟩:=aK
   exact⟨aw.gD B9,a4,a3,aV,aB,ax,(av.trans G).trans aw⟩
end
end
section
variable{a:cL}{s:St}{n:Nat}
structure Sm(n:Nat)(s:St):Prop where
 heap:s.heap.length<=n
 bq:s.bq.length<=n
 xl:∀g∈s.ak,∀w∈g.av,w<=9223372036854775807
def zc:∀(n:Nat)(h:List bL)(g:List Int),GH h+g.length<=n->(iA h g).length=h.length
 |n,h,[],_=>by rw[zd]
 |0,h,w::r,b=>by simp at b
 |n+1,h,w::r,b=>by
  simp only[ba]at b;rcases gE (iX h w)with a|a
  ·obtain⟨e,f⟩:=cq a;by_cases c:(aW h w).aQ=1
   ·have d:=lE (d:=jz) e;simp only[aq f,jz]at d;simp at d;rw[ze a c,zc n _ _ (by simp[jz];omega)];simp
   ·have d:=lE (d:={aW h w with aQ:=(aW h w).aQ -1}) e;simp only[aq f]at d;rw[aq V]at d;rw[uI a c,zc n _ _ (by simp only[fI];omega)];simp[fI]
  ·rw[uJ a,zc n _ _ V]
def No(h:List bL):(pY h).length<=h.length:=by unfold pY;simp;omega
def IV:∀(a:List Int)(g:List bL),(j8 g a).length=g.length
 |[],g=>rfl
 |w::a,g=>by rw[j8,IV a];simp[nE]
def Kq(h:List bL)(w:Int):(apart h w).length<=h.length:=by
 unfold apart;split
 ·exact bI (No _) E
 ·rw[IV];simp[fI]
def KL(h:List bL)(a:Nat)(c:bL):(lp h a c).length<=h.length+1:=by
 unfold lp;split<;>simp
def Oh{k:List a9}{f:a9}{x:Instr}(C:Bb a s k f x)(D:Sm n s)(hn:n<=900000000)(aV:List Int)(hM:sZ a s f x aV):Sm (n+1) (jd a s k f x aV):=by
 have hh:=D.heap;have ho:=D.bq;have y:=D.xl;rw[C.fr]at y;have hF:=C.F;have h4:=C.OF;have hd:=C.dst;have af:=C.JX;have t:∀r,u f.av r<=9223372036854775807:=λr=>by
  rcases aX r.toNat f.av.length with m|m
  ·obtain⟨c,b⟩:=ag m;rw[Lm b];exact y f E c (ar b)
  ·rw[u,iH,bZ m];simp
 have vD:∀g∈k,∀w∈g.av,w<=9223372036854775807:=λg p=>y g (by simp[p]);have c:∀{g:a9},(∀w∈g.av,w<=9223372036854775807)->∀q∈k++[g],∀w∈q.av,w<=9223372036854775807:=λp q d=>by
  rcases List.mem_append.1 d with d|d
  ·exact vD q d
  ·simp at d;subst d;exact p
 have e:∀w∈f.av,w<=9223372036854775807:=y f E;have j:∀(J:Int),J<=9223372036854775807->∀w∈gU f.av x.dst J,w<=9223372036854775807:=λJ hv w b=>by
  rcases rc b with rfl|b
  ·exact hv
  ·exact e w b
 have ab:∀{w},gF w\/iX s.heap w->w<=9223372036854775807:=λh=>by
  rcases h with h|h
  ·have:=h.2;omega
  ·have m:=ax (cq h).1;unfold ix at m;omega
 have I:∀(g M:Int)(K:List Int),(∀w∈K,w<=9223372036854775807)->∀w∈(cv a g M K).av,w<=9223372036854775807:=λg M K b w h=>by
  simp only[cv]at h;rcases List.mem_append.1 h with h|h
  ·exact b w h
  ·rw[oL h];omega
 have HB:∀{g q:a9},(∀w∈g.av,w<=9223372036854775807)->(∀w∈q.av,w<=9223372036854775807)->∀L∈k++[g,q],∀w∈L.av,w<=9223372036854775807:=λp d L o=>by
  rcases List.mem_append.1 o with o|o
  ·exact vD L o
  ·simp at o;rcases o with rfl|rfl
   ·exact p
   ·exact d
 have aa:∀w∈dg f x.args,w<=9223372036854775807:=λw b=>by
  obtain⟨r,_,rfl⟩:=List.mem_map.1 b;exact t r
 have ac:=tI s.heap;unfold jd;simp only[];by_cases z:x.op=0
 ·rw[aq z];exact⟨by simp only[];omega,by simp only[];omega,c (j _ (by have:=h4.2.2.2.2.2.2 z;omega))⟩
 rw[ae z];by_cases N:x.op=1\/x.op=2\/x.op=3\/x.op=4
 ·rw[aq N];exact⟨by simp only[];omega,by simp only[];omega,c (j _ (by have:=(MW x.op (u f.av (u x.args 0)) (u f.av (u x.args 1))).2;omega))⟩
 rw[ae N];by_cases Y:x.op=5
 ·rw[aq Y];exact⟨by simp only[];omega,bF,c (j _ (t _))⟩
 rw[ae Y];by_cases B:x.op=6
 ·rw[aq B];split
  ·refine⟨bF,by simp only[];omega,c (j _ ?_)⟩;rename_i v;have G:=h4.2.2.2.2.1 B;obtain⟨H,F,A,_⟩:=C.Ob _ (il (l:=f.be) (i:=x.bV -1) V V) v.2;have:=ax A;unfold ix at this;omega
  ·refine⟨?_,by simp only[];omega,c (j _ V)⟩;have:=KL s.heap (eL s.heap) ⟨1,x.bJ,dg f x.args⟩;simp only[];omega
 rw[ae B];by_cases O:x.op=10
 ·rw[aq O];refine⟨?_,by simp only[];omega,c (j _ V)⟩;have:=KL s.heap (eL s.heap) ⟨1,fH a+x.bJ,dg f x.args⟩;simp only[];omega
 rw[ae O];by_cases P:x.op=14
 ·rw[aq P];exact⟨by simp[nE];omega,by simp only[];omega,c e⟩
 rw[ae P];by_cases Q:x.op=15
 ·rw[aq Q];refine⟨?_,by simp only[];omega,c e⟩;have m:=No (iA s.heap [u f.av (u x.args 0)]);rw[zc _ _ _ (ad _)]at m;simp only[];omega
 rw[ae Q];by_cases R:x.op=16\/x.op=17
 ·rw[aq R];split
  ·exact⟨bF,by simp only[];omega,c e⟩
  ·refine⟨?_,by simp only[];omega,c e⟩;have:=Kq s.heap (u f.av (u x.args 0));simp only[];omega
 rw[ae R];by_cases S:x.op=18
 ·rw[aq S];exact⟨by simp only[];omega,by simp only[];omega,c (j _ (t _))⟩
 rw[ae S];by_cases v:x.op=19
 ·rw[aq v];refine⟨by simp only[];omega,by simp only[];omega,c (j _ ?_)⟩;obtain⟨G,U⟩:=hM.load v;obtain⟨W,_,_,_,_,T⟩:=C.I;have A:=T.op;unfold lD at A;rw[ae V,ae V,ae V,ae V,ae V,ae V,ae V,aq v]at A;obtain⟨F,H⟩:=cq G;exact ab (((C.ok.heap.cell _ (ar F)).ov H).1 _ (il A.2.1 U))
 rw[ae v];by_cases T:x.op=20
 ·rw[aq T];exact⟨by simp only[];omega,by simp only[];omega,c e⟩
 rw[ae T];by_cases U:x.op=21
 ·rw[aq U];exact⟨by simp only[];omega,by simp only[];omega,c e⟩
 rw[ae U];by_cases W:x.op=22
 ·rw[aq W];exact⟨by simp only[];omega,by simp only[];omega,c e⟩
 rw[ae W];by_cases Z:x.op=9
 ·rw[aq Z];exact⟨by simp only[];omega,by simp only[];omega,HB e (I _ _ _ aa)⟩
 rw[ae Z];by_cases X:x.op=24
 ·rw[aq X];exact⟨by simp only[];omega,by simp only[];omega,c (I _ _ _ aa)⟩
 rw[ae X];by_cases A:x.op=11
 ·rw[aq A];refine⟨?_,by simp only[];omega,HB e (I _ _ _ λw b=>?_)⟩
  ·have:=Kq s.heap (u f.av (u x.args 0));simp only[];omega
  ·rcases List.mem_append.1 b with b|b
   ·obtain⟨G,_⟩:=hM.apply A;obtain⟨F,H⟩:=cq G;exact ab (((C.ok.heap.cell _ (ar F)).ov H).1 _ b)
   ·simp at b;subst b;exact t _
 rw[ae A];split
 ·exact⟨by simp only[];omega,by simp only[];omega,E⟩
 ·rename_i F G;refine⟨by simp only[];omega,by simp only[];omega,λq d=>?_⟩;have H:F∈k:=List.mem_of_getLast? G;rcases List.mem_append.1 d with d|d
  ·exact vD q ((List.dropLast_sublist k).subset d)
  ·simp at d;subst d;intro w b;rcases rc b with rfl|b
   ·exact t _
   ·exact vD F H w b
def Se(h:cA a s)(c:Sm n s)(l:n<=900000000):Sm (n+1) (rI a s):=by
 have b:Sm (n+1) s:=⟨by have:=c.heap;omega,by have:=c.bq;omega,c.xl⟩;by_cases d:s.cR=3
 ·obtain⟨g,f,e⟩:=h.split d;have k:s.ak.getLast?=some f:=by rw[e];simp
  have j:s.ak.dropLast=g:=by rw[e];simp
  have C:Bb a s g f (fg a f):=⟨h,d,e,rfl,c.xl⟩;unfold rI;rw[ae (by simpa using d),k,j];simp only[];split
  ·exact⟨b.heap,b.bq,b.xl⟩
  split
  ·rename_i i;exact Oh C c l _ i
  ·exact⟨b.heap,b.bq,b.xl⟩
 ·rw[vw d];exact b
def Jy{a:cL}:∀(k:Nat){s:St}{n:Nat},cA a s->Sm n s->n+k<=900000000->Sm (n+k) (aA a k s)
 |0,s,n,_,b,_=>b
 |k+1,s,n,h,b,c=>by
  have:=Jy k (Ph h) (Se h b V) V;rw[aA];have e:n+(k+1)=n+1+k:=V;rw[e];exact this
def Nl(a:cL)(dQ:Int):Sm 0 (kA a dQ):=⟨by simp[kA],by simp[kA],λg b w c=>by
 simp[kA]at b;subst b;simp only[cv,dS]at c;rw[oL c];omega⟩
end
section
variable{a:cL}
section
variable{c:I}{e:Nat->Nat}{m:I}{b:Nat}{d p bq g f:O}{s:St}
def Nj(L:AA c e m b bC (SB d p s bq g f) bq g f s.bq s.heap s.ak)(G:eX c d p a)(x:cA a s){z:Nat}(F:Sm z s)(h:Nat)(M:h<=100000)(N:z<=500000000):
 aN bY 43 [vp b 0,vi h] m λJ u=>(∃i:Int,J=vi i)/\vT c e m b d p (aA a h s) u:=by
 apply vg (b,0)
 refine⟨λo u=>∃k:Nat,o=k/\k<=h/\vT c e m b d p (aA a k s) u,λo _=>((h:Int) -o).toNat,⟨0,rfl,dZ _,e,bq,g,f,L,dA.aC _ L.new⟩,?_⟩
 rintro o O ⟨k,rfl,K,B,A,y,w,l,v⟩
 have H:=Jx k x
 have t:=Jy k x F V
 refine dit (λD=>?_) λD=>?_
 ·refine⟨_,l.box.cy 2,λr=>?_,λr=>?_⟩
  ·refine(LX l G H t.xl (by have:=t.heap;omega) (by have:=t.bq;omega)).mono ?_
   rintro _ j i
   have q:cO ((k:Int)+1)=((k+1:Nat):Int):=jM (n:=h) V V
   rw[q]
   refine⟨⟨k+1,rfl,V,by rw[Jz];exact i.from v⟩,?_⟩
   show((h:Int) -((k+1:Nat):Int)).toNat<((h:Int) -(k:Int)).toNat
   omega
  ·simp at r
   have q:aA a h s=aA a k s:=by
    have E:h=k+(h -k):=V;have C:∀(i j:Nat)(s:St),aA a (i+j) s=aA a j (aA a i s):=by
     intro i;induction i with
     |zero=>intro j s;simp[aA]
     |succ i I=>intro j s;rw[Nat.succ_add];simp only[aA];exact I j _
    rw[E,C,AU _ r]
   rw[q]
   exact⟨⟨_,rfl⟩,B,A,y,w,l,v⟩
 ·have:k=h:=V
  subst this
  exact⟨⟨_,rfl⟩,B,A,y,w,l,v⟩
end
def Cm{m:I}{z L:O}(S:eX m z L a)(D:lO a)(dQ:Int):
 aN bY 42 [.agg #[O.v z,O.v L],vi dQ] m λaa n=>∃bq t A,aa=.agg #[vi 3,vi 0,vi 0,vi dQ,O.v bq,O.v t,O.v A]/\J m n/\∃e f g c d,bq.cap=0/\bq.len=0/\t.cap=0/\t.len=0/\A=.mk c 0 1 1/\
  rX m n e f g d (cv a 0 0 []).av (cv a 0 0 []).aV (cv a 0 0 []).be/\(c≠e/\c≠f/\c≠g/\m.size<=c/\c<n.size)/\cD n c ez [.i 0,.i 0,.i 0,.s (.mk e 0 d d),.s (.mk f 0 d d),.s (.mk g 0 d d)]:=by
 apply wF
 simp -zeta only[aE,aD]
 intro o G H w x j
 have B:J m j:=((((((J.aC m).aM _).aM _).aM _).aM _).aM _).aM _
 have U:o.size=m.size+1:=by simp[o]
 have W:G.size=m.size+2:=by simp[G,U]
 have X:H.size=m.size+3:=by simp[H,W]
 have Y:w.size=m.size+4:=by simp[w,X]
 have Z:x.size=m.size+5:=by simp[x,Y]
 have s6:j.size=m.size+6:=by simp[j,Z]
 clear_value j
 have hl:=D.pC.len
 obtain⟨q,u⟩:=ag (l:=a.cB) (k:=0) V
 have ac:=(D.dh q (ar u)).av
 have v:dF a 0=q:=by simp[dF,u]
 have K:∀b,au j (.mk b 0 0 0) []:=λb=>⟨rfl,E,E,E⟩
 refine(vI (S.ext B) (dY 0) u V 0 (K w.size) (K x.size) bF rfl).mono ?_
 rintro _ h ⟨e,f,g,rfl,N⟩
 have s:=N.ext
 have ab:=N.lo
 refine⟨s.de bF,_,_,_,_,_,_,rfl,?_⟩
 intro i y
 have C:J h i:=(J.aC h).aM _
 have s8:i.size=h.size+1:=by simp[i]
 have s9:y.size=i.size:=az _ _ _ _
 have ad:=s.size
 have T:cD i h.size ez [.i 0,.i 0,.i 0,.s (.mk e 0 q.av.toNat q.av.toNat),.s (.mk f 0 q.av.toNat q.av.toNat),.s (.mk g 0 q.av.toNat q.av.toNat)]:=cD.push h _ _
 have r:=N.TY C
 have F:J m y:=(B.trans (s.trans C)).aj (show m.size<=o.size by omega) _ _
 have p:∀b,b≠o.size->y[b]? =i[b]? :=λb R=>bn _ _ _ _ R
 have Q:(cv a 0 0 []).av=[]++fJ (q.av.toNat -([]:List Int).length):=by simp[cv,v]
 have P:(cv a 0 0 []).aV=[]++fJ (q.av.toNat -([]:List Int).length):=by simp[cv,v,gP]
 have M:(cv a 0 0 []).be=fJ q.av.toNat:=by simp[cv,v]
 refine⟨_,_,_,rfl,F,e,f,g,h.size,q.av.toNat,rfl,rfl,rfl,rfl,rfl,?_,V,T.congr (p _ V)⟩
 rw[Q,P,M]
 exact⟨F,V,r.kr.congr (p _ V),r.ko.congr (p _ V),r.kh.congr (p _ V),N.len⟩
def Q4{t q m:I}{y:Nat}{Mk:List Ce}{bq p s:O}{dQ:Int}{d e g b k l:Nat}(i:bq.cap=0/\bq.len=0/\p.cap=0/\p.len=0/\s=.mk b 0 1 1)
 (N:rX t q d e g k (cv a 0 0 []).av (cv a 0 0 []).aV (cv a 0 0 []).be)(P:b≠d/\b≠e/\b≠g/\t.size<=b/\b<q.size)(M:cD q b ez [.i 0,.i 0,.i 0,.s (.mk d 0 k k),.s (.mk e 0 k k),.s (.mk g 0 k k)])
 (j:J q m)(R:q.size<=l)(A:cD m l y (Mk++[.i 3,.i 0,.i 0,.i dQ,.s bq,.s p,.s s])):
 AA t (uz (uz (pR (λ_=>0) d e g 0) b 4) l 1) m l y (Mk++[.i 3,.i 0,.i 0,.i dQ,.s bq,.s p,.s s]) bq p s [] [] [cv a 0 0 []]:=by
 have Q:=N.lo
 have L:J t m:=N.ext.trans j
 have S:=A.lt
 have T:=N.ext.size
 have x:∀c,c≠l->c≠b->(uz (uz (pR (λ_=>0) d e g 0) b 4) l 1) c=pR (λ_=>0) d e g 0 c:=λc v w=>by rw[eZ v,eZ w]
 have C:=N.TY j
 obtain⟨F,G,H⟩:=C.qQ (a:=λ_=>0) (u:=0)
 have conv:∀{z:Nat}{u:O}{B:List Ce},gY (pR (λ_=>0) d e g 0) m aB 1 z u B->u.F≠l->u.F≠b->gY (uz (uz (pR (λ_=>0) d e g 0) b 4) l 1) m aB 1 z u B:=λD v w=>D.fw (λ_=>rfl) (λ_=>x _ v w)
 refine⟨L,λc K=>?_,λc K=>?_,A,iE _ _ _,⟨by simp[i.2.1],by rw[i.1,i.2.1];exact ad _,Or.inl i.1⟩,⟨[],⟨by simp[i.2.2.2.1],by rw[i.2.2.1,i.2.2.2.1];exact ad _,Or.inl i.2.2.1⟩,fX.nil _ _,Ur.nil⟩,?_⟩
 ·rw[x c V V];unfold pR;rw[eZ V,eZ V,eZ V]
 ·rw[x c (by have:=j.size;omega) (by have:=j.size;omega)];unfold pR;rw[eZ (by have:=j.size;omega),eZ (by have:=j.size;omega),eZ (by have:=j.size;omega)]
 ·refine qO.rV (a:=[]) (f:=cv a 0 0 []) (r:=.mk d 0 k k) (k:=.mk e 0 k k) (h:=.mk g 0 k k) (l:=[]) ⟨?_,rfl,E,E,conv F (by simp only[O.jb];omega) (by simp only[O.jb];omega),conv G (by simp only[O.jb];omega) (by simp only[O.jb];omega),conv H (by simp only[O.jb];omega) (by simp only[O.jb];omega)⟩
  rw[i.2.2.2.2]
  refine⟨rfl,ad _,Or.inr ⟨b,1,[],rfl,?_,?_,rfl⟩⟩
  ·rw[eZ V,iE]
  ·rw[gV];exact M.ext j
end
structure YF where
 cR:Int
 value:Int
 bG:Int
 bq:List Int
 ok:Bool
section
variable{m:I}
def zC{s:O}{l:List Int}(c:au m s l)(n:l.length<=1000000000):oD 53 [O.v s] m l:=by
 apply ru;have b:=c.len;refine⟨λh=>?_,λh=>?_⟩
 ·cases s with
  |nil=>simp at b;have:l=[]:=List.length_eq_zero_iff.1 b.symm;subst this;exact⟨.nil,rfl,iZ.nil _ _ _ _,J.aC _⟩
  |mk a o e d=>simp at h
  |Bi a o d=>simp at h
 ·intro d;have a:J m d:=(J.aC m).aM _;have f:iZ m d aB 1 (.mk m.size 0 0 0) []:=iZ.new (J.aC m) aB 1 [] 0 E;refine iZ.append (zs:=[.i 0]) (c:=l.map Ce.i) f a (by simp[b]) (c.ext a).Ol bF λr o a e g i j k=>⟨r,rfl,by simpa using a,e⟩
def nJ{a:O}{h:List bL}(i:cW m a h){w:Int}(y:w<=9223372036854775807):
 aN bY 52 [O.v a,vi w] m λv r=>∃(j:Int)(e:Bool),v=.tuple #[vi j,vb e]/\(e=true<->iX h w)/\(e=true->j=ix w)/\J m r:=by
 apply Df
 have n:=i.len
 have x:=i.gA
 refine⟨λc=>?_,λc=>?_⟩
 ·simp at c
  have o:cO (w -1000)=w -1000:=aP V V
  have q:(ix w:Int)=w -1000:=by unfold ix;omega
  rw[o]
  refine⟨λg=>?_,λg=>?_⟩
  ·simp at g
   obtain⟨f,b⟩:=ag (l:=h) (k:=(w -1000).toNat) V
   obtain⟨t,u,p,_⟩:=i.u b
   refine⟨V,V,f.aQ,p,_,_,rfl,?_,λ_=>q.symm,J.aC _⟩
   simp only[mz,ao]
   refine⟨λa=>⟨c,f,b,a⟩,λ⟨_,s,d,a⟩=>?_⟩
   unfold ix at d
   rw[b]at d;simp at d;subst d;exact a
  ·simp at g
   refine⟨_,_,rfl,⟨λh=>by simp at h,λ⟨_,f,b,_⟩=>?_⟩,λh=>by simp at h,J.aC _⟩
   have:=ax b
   omega
 ·simp at c
  exact⟨_,_,rfl,⟨λh=>by simp at h,λn=>by have:=n.1;omega⟩,λh=>by simp at h,J.aC _⟩
end
section
variable{m:I}{e:O}{b:List bL}{w:Int}{d:bL}{mk:Nat->Bool}{a:Nat}{W:List Nat}{f:Nat->Int}
def oZ(n:Int)(m:I):dq bY 21 [vi n] m (gF n):=by
 apply EL;refine⟨λb=>fB ?_ (J.aC _),λb=>bX (λa=>?_) (J.aC _)⟩
 ·simp at b;simp[gF,b]
 ·simp at b;have:=a.1;omega
def Dh(d:cW m e b)(k:Ev w):dq bY 82 [O.v e,vi w] m (oK b w):=by
 apply xw;refine(nJ d k.2).mono ?_;rintro _ l ⟨a,h,rfl,f,_,g⟩;refine⟨a,h,rfl,λc=>je (Or.inr (f.1 c)) g,λc=>?_⟩;refine(oZ w l).then λi o j n=>⟨i,rfl,fB ?_ (g.trans n)⟩;rw[j];exact⟨Or.inl,λd=>d.resolve_right (Vc.fb f c)⟩
structure Ga(b:List bL)(d:bL):Prop where
 lo: -1<=d.aQ
 lA:0<=d.lA/\d.lA<=99
 fl:d.aI.length<=3
 uH:d.aQ<1->d.lA=0
 jz:d.aQ=0->d.aI=[]
 dg:∀w∈d.aI,oK b w/\(d.aQ<0->w=0)
def Ga.ok(a:Ga b d)(f:d.aQ<=999999):mB b d:=
 ⟨a.fl,a.lo,f,λe=>⟨a.uH e,λw c=>by
  by_cases g:d.aQ<0
  ·exact(a.dg w c).2 g
  ·rw[a.jz V]at c;simp at c,a.jz⟩,λ_=>⟨λw c=>(a.dg w c).1,a.lA⟩⟩
def mB.v(a:mB b d):Ga b d:=by
 refine⟨a.lo,?_,a.fl,λg=>(a.uH g).1,λf=>(a.uH V).2.2 f,λw c=>⟨?_,λh=>(a.uH V).2.1 w c⟩⟩
 ·by_cases e:0<d.aQ
  ·exact(a.ov e).2
  ·have:=(a.uH V).1;omega
 ·by_cases e:0<d.aQ
  ·exact(a.ov e).1 w c
  ·have:=(a.uH V).2.1 w c;exact Or.inl (by subst this;exact⟨bd,bd⟩)
def Ga.cases(c:Ga b d)(e:w∈d.aI):iX b w\/w<1000:=by
 rcases(c.dg w e).1 with a|a
 ·have:=a.2;exact Or.inr V
 ·exact Or.inl a
def Db{o:O}(K:cW m e b)(A:au m o d.aI)(N:∀w∈d.aI,Ev w):dq bY 51 [O.v e,.agg #[vi d.aQ,vi d.lA,O.v o]] m (Ga b d):=by
 apply xp;simp -zeta only[aE,aD];intro f;have g:J m f:=(J.aC m).aM _;have T:f.size=m.size+1:=by simp[f]
 clear_value f;have B:=A.len;have L:∀F∈[m.size],F<f.size:=bF;refine⟨λp=>bX (λc=>by have:=c.lo;simp at p;omega) g,λp=>⟨λq=>bX (λc=>by have:=c.lA;simp at q;omega) g,λq=>⟨λr=>bX (λc=>by have:=c.lA;simp at r;omega) g,λr=>⟨λu=>bX (λc=>by have:=c.fl;simp at u;omega) g,λu=>?_⟩⟩⟩⟩;simp at p q r u;refine⟨λM=>M=f/\(d.aQ<1->d.lA=0)/\(d.aQ=0->d.aI=[]),?_,?_⟩
 ·have zero:(d.aQ<1->d.lA=0)->((d.aQ==(0:Int))=true->((decide ((o.len:Int)>(0:Int)))=true->∃a:Bool,vb false=.bool a/\(a=true<->Ga b d)/\J m f)/\
   ((decide ((o.len:Int)>(0:Int)))=false->f=f/\(d.aQ<1->d.lA=0)/\(d.aQ=0->d.aI=[])))/\((d.aQ==(0:Int))=false->f=f/\(d.aQ<1->d.lA=0)/\(d.aQ=0->d.aI=[])):=λi=>
   ⟨λh=>⟨λa=>bX (λc=>by have:=c.jz (by simpa using h);rw[this]at B;simp at a B;omega) g,λa=>⟨rfl,i,λ_=>List.length_eq_zero_iff.1 (by simp at a;omega)⟩⟩,λh=>⟨rfl,i,λa=>by simp at h;exact absurd a h⟩⟩
  refine⟨λh=>⟨λa=>bX (λc=>by have:=c.uH (by simpa using h);simp at a;exact a this) g,λa=>zero λ_=>by simpa using a⟩,λh=>zero λa=>by simp at h;omega⟩
 ·rintro P ⟨rfl,I,H⟩;refine eg (n:=d.aI.length) V (λz i=>J P i/\∀w∈d.aI.take z,oK b w/\(d.aQ<0->w=0)) ⟨J.aC _,E⟩ ?_;rintro z S Q μ R ⟨t,y⟩ D
  refine dit (λh=>?_) λh=>?_
  ·obtain⟨w,i⟩:=ag (l:=d.aI) (k:=z) V;refine⟨V,V,w,by simpa using(A.ext (g.trans t)).u i,(Dh (cW.ext (g.trans t) K) (N w (ar i))).aG t L λG C x U s=>⟨G,rfl,λa=>bX (λc=>Vc.nb x a (c.dg w (ar i)).1) (g.trans s),λa=>⟨λv=>⟨λj=>bX (λc=>?_) (g.trans s),λj=>?_⟩,λv=>?_⟩⟩⟩
   ·have:=(c.dg w (ar i)).2 (by simpa using v);simp at j;exact j this
   ·exact D V C ⟨s,bA i y ⟨Vc.yb x a,λ_=>by simpa using j⟩⟩
   ·exact D V C ⟨s,bA i y ⟨Vc.yb x a,λj=>by simp at v;omega⟩⟩
  ·exact je ⟨p,⟨q,r⟩,V,I,H,cJ V y⟩ (g.trans t)
def fQ(mk:Nat->Bool):Nat->List bL->Nat->Int
 |_,[],_=>0
 |i,d::b,a=>(if mk i=true then 0 else dJ d.aI a)+fQ mk (i+1) b a
def Bv:∀(i:Nat)(b:List bL)(a:Nat),fQ (λ_=>false) i b a=dw b a
 |_,[],_=>rfl
 |i,d::b,a=>by simp[fQ,dw,Bv (i+1) b a]
def Dq(mk:Nat->Bool):∀(i:Nat)(b:List bL)(a:Nat),0<=fQ mk i b a
 |_,[],_=>dY 0
 |i,d::b,a=>by have:=Dq mk (i+1) b a;have:=gB d.aI a;simp only[fQ];split<;>omega
def MY(mk:Nat->Bool):∀(i:Nat)(b:List bL)(a:Nat),fQ mk i b a<=dw b a
 |_,[],_=>dY 0
 |i,d::b,a=>by have:=MY mk (i+1) b a;have:=gB d.aI a;simp only[fQ,dw];split<;>omega
def Gw{mk e:Nat->Bool}:∀{i:Nat}{b:List bL}{a:Nat},(∀j,i<=j->mk j=e j)->fQ mk i b a=fQ e i b a
 |_,[],_,_=>rfl
 |i,d::b,a,c=>by simp only[fQ];rw[c i (ad _),Gw λj f=>c j V]
def KN{mk:Nat->Bool}:∀{e:Nat}{b:List bL}{f:Nat}{d:bL},b[f]? =some d->mk (e+f)=false->∀a,fQ (lz mk (e+f)) e b a=fQ mk e b a -dJ d.aI a
 |_,[],_,_,b,_,_=>by simp at b
 |e,m::b,0,d,j,l,a=>by
  simp at j;subst j;have g:=Gw (mk:=lz mk e) (e:=mk) (i:=e+1) (b:=b) (a:=a) λo n=>nT V;rw[iJ]at l⊢;simp only[fQ,zn,l,g];simp;omega
 |e,m::b,f+1,d,j,l,a=>by
  have g:e+(f+1)=e+1+f:=V;have:=KN (mk:=mk) (e:=e+1) (b:=b) (f:=f) (d:=d) (by simpa using j) (by rw[<-g];exact l) a;simp only[fQ];rw[g,this,nT V];omega
def MX{mk:Nat->Bool}:∀{e:Nat}{b:List bL}{j:Nat}{d:bL},b[j]? =some d->mk (e+j)=false->∀a,dJ d.aI a<=fQ mk e b a
 |_,[],_,_,b,_,_=>by simp at b
 |e,l::b,0,d,f,g,a=>by
  simp at f;subst f;have:=Dq mk (e+1) b a;simp only[iJ]at g;simp only[fQ,g];simp;omega
 |e,l::b,j+1,d,f,g,a=>by
  have:=MX (mk:=mk) (e:=e+1) (b:=b) (j:=j) (d:=d) (by simpa using f) (by rw[<-g];congr 1;omega) a;have:=gB l.aI a;simp only[fQ];split<;>omega
def KM{mk:Nat->Bool}:∀{i:Nat}{b:List bL}{a:Nat},0<fQ mk i b a->∃(k:Nat)(d:bL),b[k]? =some d/\mk (i+k)=false/\(1000+(a:Int))∈d.aI
 |_,[],_,b=>by simp[fQ]at b
 |i,c::b,a,e=>by
  simp only[fQ]at e;by_cases g:mk i=false/\0<dJ c.aI a
  ·exact⟨0,c,rfl,g.1,LH g.2⟩
  ·have:0<fQ mk (i+1) b a:=by
    have:=gB c.aI a;split at e
    ·omega
    ·rename_i h;have:¬0<dJ c.aI a:=λf=>g ⟨by simpa using h,f⟩;omega
   obtain⟨k,d,h,f,j⟩:=KM this;exact⟨k+1,d,by simpa using h,by rw[<-f];congr 1;omega,j⟩
def Qa(b:List bL)(mk:Nat->Bool):Prop:=
 ∃t:Nat->Nat,(∀j,mk j=true->t j<=k8 mk b.length)/\∀(i:Nat)(d:bL),b[i]? =some d->∀w∈d.aI,1000<=w->mk (ix w)=true->mk i=true/\t i<t (ix w)
def Qa.set(u:Qa b mk)(t:a<b.length)(l:mk a=false)(B:fQ mk 0 b a=0):Qa b (lz mk a):=by
 obtain⟨A,o,s⟩:=u;have r:=xg l t;have v:∀(c:Nat)(d:bL),b[c]? =some d->(1000+(a:Int))∈d.aI->mk c=true:=λc d g h=>by
  cases f:mk c
  ·have j:=MX (mk:=mk) (e:=0) g (by rw[bQ];exact f) a;have k:=qA h;omega
  ·rfl
 refine⟨λx=>if x=a then k8 mk b.length+1 else A x,λy p=>?_,λc d g w h e q=>?_⟩
 ·simp only[r];split
  ·omega
  ·rename_i j;rw[nT j]at p;have:=o y p;omega
 ·by_cases j:ix w=a
  ·have f:=v c d g (by rw[<-j,gC e];exact h);have m:c≠a:=λk=>by rw[k,l]at f;cases f
   simp only[aq j,ae m];exact⟨zo f,by have:=o c f;omega⟩
  ·rw[nT j]at q;obtain⟨n,z⟩:=s c d g w h e q;have m:c≠a:=λk=>by rw[k,l]at n;cases n
   simp only[ae j,ae m];exact⟨zo n,z⟩
def ME(f:Nat->Nat):∀n,∃B,∀i,i<n->f i<=B
 |0=>⟨0,λi a=>absurd a (fy _)⟩
 |n+1=>by
  obtain⟨B,c⟩:=ME f n;refine⟨B+f n,λi a=>?_⟩;rcases aX i n with b|b
  ·have:=c i b;omega
  ·have:i=n:=V;subst this;omega
def R8(r:Qa b mk)(q:∀d∈b,∀w∈d.aI,1000<=w->ix w<b.length)(o:∀a,a<b.length->fQ mk 0 b a=0->mk a=true):
 k8 mk b.length=b.length<->P3 b:=by
 rw[Ic]
 constructor
 ·intro g
  obtain⟨t,f,c⟩:=r
  refine⟨λx=>b.length -t x,λi d h w j e=>?_⟩
  have k:=q d (ar h) w j e
  have:=(c i d h w j e (g _ k)).2
  have:=f _ (g _ k)
  have:=CS mk b.length
  show b.length -t (ix w)<b.length -t i
  omega
 ·rintro⟨h,s⟩
  obtain⟨B,m⟩:=ME h b.length
  have u:∀(n i:Nat),B -h i<n->i<b.length->mk i=true:=by
   intro n;induction n with
   |zero=>intro i g;omega
   |succ n t=>
    intro i g p;refine o i p (Int.le_antisymm (Int.not_lt.1 λe=>?_) (Dq _ _ _ _));obtain⟨k,d,f,c,l⟩:=KM e;rw[bQ]at c;have:=s k d f _ l V;rw[jZ]at this;have j:=ax f;have:=m k j;rw[t k V j]at c;cases c
  exactλi g=>u (B -h i+1) i V g
structure Ew(b:List bL)(mk:Nat->Bool)(W:List Nat)(f:Nat->Int):Prop where
 IJ:W.Nodup
 un:∀a∈W,a<b.length/\mk a=false
 zero:∀a,a<b.length->(f a=0<->(mk a=true\/a∈W))
def Dk:∀(n:Nat)(W:List Nat),W.Nodup->(∀a∈W,a<n)->W.length<=n
 |0,[],_,_=>ad _
 |0,a::_,_,b=>absurd (b a E) (fy _)
 |n+1,W,d,b=>by
  by_cases e:n∈W
  ·have f:=Dk n (W.erase n) (d.erase n) λa c=>by
    have:=d.mem_erase_iff.1 c;have:=b a this.2;omega
   rw[List.length_erase_of_mem e]at f;omega
  ·have:=Dk n W d λa c=>by
    have:=b a c;have:a≠n:=λf=>e (f▸c);omega
   omega
def Ew.len(K:Ew b mk W f):W.length<=b.length:=Dk _ _ K.IJ λa c=>(K.un a c).1
def Ew.Uy(K:Ew b mk (W++[a]) f):Ew b (lz mk a) W f:=by
 obtain⟨g,i,h⟩:=List.nodup_append.1 K.IJ;refine⟨g,λx c=>?_,λx c=>?_⟩
 ·have d:=K.un x (bH _ c);refine⟨d.1,?_⟩;rw[nT λe=>h x c a E e];exact d.2
 ·rw[K.zero x c];by_cases e:x=a
  ·subst e;simp[zn]
  ·rw[nT e];simp[e]
def Ew.rI{lf':Nat->Int}(K:Ew b mk W f)(j:a<b.length)(k:∀x,lf' x=if x=a then f x -1 else f x)(e:0<f a):
 (lf' a=0->Ew b mk (W++[a]) lf')/\(lf' a≠0->Ew b mk W lf'):=by
 have h:mk a≠true/\a∉W:=by
  have:=(K.zero a j).2;constructor
  ·intro d;have:=this (Or.inl d);omega
  ·intro d;have:=this (Or.inr d);omega
 refine⟨λi=>⟨?_,λx c=>?_,λx c=>?_⟩,λi=>⟨K.IJ,K.un,λx c=>?_⟩⟩
 ·rw[Yk]
  refine⟨K.IJ,E,λx c y l g=>?_⟩
  simp at l;subst l;subst g;exact h.2 c
 ·rcases List.mem_append.1 c with c|c
  ·exact K.un x c
  ·simp at c;subst c;exact⟨j,by simpa using h.1⟩
 ·by_cases g:x=a
  ·subst g;simp[i]
  ·rw[k x,ae g,K.zero x c];simp[g]
 ·by_cases g:x=a
  ·subst g
   constructor
   ·intro d;exact absurd d i
   ·rintro(d|d)
    ·exact absurd d h.1
    ·exact absurd d h.2
  ·rw[k x,ae g,K.zero x c]
end
section
variable{c:Nat->Nat}{m:I}{b d a:Nat}{s:O}{e:Nat->Int}
def RI(W:List Nat):List Int:=W.map λ(a:Nat)=>(a:Int)
def HG(W:List Nat):(RI W).length=W.length:=by simp[RI]
def Ig(W:List Nat)(a:Nat):RI (W++[a])=RI W++[(a:Int)]:=by simp[RI]
def Td(h:gY c m aB 1 b s ((qI d e).map Ce.i))(i:d<=9223372036854775807)(g:a<d):D m s.F (s.off+Int.toNat (a:Int)*1)=some (vi (e a)):=by
 have:=(h.pw (by rw[mw];exact i)).u (sW (f:=e) g);simpa using this
def Q6(h:gY c m aB 1 b s ((qI d e).map Ce.i)):s.len=d:=by have:=h.len;simp[mw]at this;omega
def Uh{g:Nat->Int}(h:gY c m aB 1 b s ((qI d e).map Ce.i))(q:a<d){v:Int}(o:∀f,f<d->g f=if f=a then v else e f)(p:∀f,m.size<=f->c f=0):
 fu m s.F (s.off+Int.toNat (a:Int)*1) 1/\gY c (aj m s.F (s.off+Int.toNat (a:Int)*1) [.i v]) aB 1 b s ((qI d g).map Ce.i)/\dA (λj=>j=b) c m c (aj m s.F (s.off+Int.toNat (a:Int)*1) [.i v]):=by
 have i:(0:Int)<=(a:Int):=V
 have j:(a:Int)<((qI d e).length:Nat):=by rw[mw];omega
 have k:=h.gU i j v
 have l:gU (qI d e) (a:Int) v=qI d g:=by
  unfold gU;rw[show Int.toNat (a:Int)=a by omega,Pj];exact eH λf n=>(o f n).symm
 rw[l]at k
 have r:=Q6 h
 have t:=h.le
 exact⟨h.P1 i j,k,dA.aj p (h.F V).2 _ _⟩
def UJ(m:I)(h:List bL)(v:Value)(c:I):Prop:=∃(s:O)(b:Bool),v=.tuple #[O.v s,vb b]/\(b=true<->Lb h)/\
 (b=true->∃a,s=.mk a 0 h.length h.length/\m.size<=a/\cD c a aB ((qI h.length (dw h)).map Ce.i))/\J m c
def zy{S:O}{h:List bL}(A:cW m S h)(aU:Pr h)(bm:h.length<=1000000000):aN bY 22 [O.v S] m (UJ m h):=by
 apply uN;simp -zeta only[aE,aD];have hl:=A.len;have en:Int.toNat (S.len:Int)=h.length:=V;rw[en];refine⟨V,V,V,V,?_⟩;intro m1;have x1:J m m1:=(J.aC m).aM _;have B1:cD m1 m.size aB ((qI h.length (λ_=>0)).map Ce.i):=JA m _;clear_value m1;have no:∀{M:I},J m M->¬Lb h->UJ m h (.tuple #[O.v O.nil,vb false]) M:=λZ L=>⟨.nil,false,rfl,by simp[L],E,Z⟩;have ap:∀d:Nat,Int.toNat (d:Int)=d:=λd=>V;simp -zeta only[O.fZ,O.jb,O.mN,bQ];refine eg (n:=h.length) V (λy p=>J m p/\cD p m.size aB ((qI h.length (λa=>dw (h.take y) a)).map Ce.i)/\∀j∈h.take y,Ga h j) ⟨x1,by simpa[dw]using B1,E⟩ ?_;rintro y m2 bv μ hi ⟨x2,B2,ak⟩ aa
 have bE:=B2.lt;have h3:∀j∈h.take y,j.aI.length<=3:=λj hm=>(ak j hm).fl;refine dit (λh1=>?_) λh1=>?_
 ·obtain⟨j,t⟩:=ag (l:=h) (k:=y) V;have af:=ar t;obtain⟨e,hf,g0,g1,g2⟩:=(cW.ext x2 A).u t;rw[ap];refine⟨V,V,j.aQ,g0,j.lA,g1,e,g2,?_⟩;intro R P;have q:J m2 P:=((J.aC m2).aM _).aj (ad _) _ _;have s4:P.size=m2.size+1:=by simp[P,R,az]
  clear_value P;refine(Db (cW.ext (x2.trans q) A) (hf.ext q) (aU j af)).aG (J.aC _) bF λo m5 Y u _=>⟨o,rfl,λh2=>no ((x2.trans q).trans u) λB=>Vc.nb Y h2 (B.cells j af).v,λh2=>?_⟩;have C:=Vc.yb Y h2;have bf:=C.fl;have z5:=u.size;have W:=B2.ext (q.trans u);have f5:=hf.ext (q.trans u);have X5:=(x2.trans q).trans u;have al:=hf.len;refine eg (n:=j.aI.length) V (λb p=>J m p/\m2.size<p.size/\au p e j.aI/\cD p m.size aB ((qI h.length (λa=>dw (h.take y) a+dJ (j.aI.take b) a)).map Ce.i)) ⟨X5,V,f5,by simpa[dJ]using W⟩ ?_;rintro b r aj ν B ⟨Q,z6,H,p⟩ U;refine dit (λh4=>?_) λh4=>?_
  ·obtain⟨w,N⟩:=ag (l:=j.aI) (k:=b) V;have aw:=ar N;have aR:=aU j af w aw;refine⟨V,V,w,by simpa using H.u N,(nJ (cW.ext Q A) aR.2).mono ?_⟩;rintro _ s ⟨a,X,rfl,T,ab,K⟩;have z7:=K.size;refine⟨K.de bF,a,X,rfl,λG=>?_,λG=>?_⟩
   ·have ai:=T.1 G;have ah:=ax (cq ai).1;have e1:=ab G;subst e1;have x:=p.ext K;have q1:=zk (h.take y) (ix w) h3;have q2:=jO (j.aI.take b) (ix w);have q3:=nQ (h.take y) (ix w);have q4:=gB (j.aI.take b) (ix w);have q5:(h.take y).length<=h.length:=bF;have q6:(j.aI.take b).length<=3:=bF;rw[ap,dP];refine⟨V,V,_,rK x ah,V,V,KV x ah,?_⟩;rw[show cO (dw (h.take y) (ix w)+dJ (j.aI.take b) (ix w)+1)=dw (h.take y) (ix w)+dJ (j.aI.take b) (ix w)+1 from aP V V];have F:=FV x (ix w) (dw (h.take y) (ix w)+dJ (j.aI.take b) (ix w)+1);rw[eH (g:=λa=>dw (h.take y) a+dJ (j.aI.take (b+1)) a)]at F
    ·refine⟨λo Y=>bn _ _ _ _ (by simp at Y;omega),U V _ ⟨(Q.trans K).aj (ad _) _ _,by rw[az];omega,?_,F⟩⟩;obtain⟨f0,aT,_,_,w2⟩:=A.u t;have er:f0=e:=by have:=x2.D w2;rw[g2]at this;exact(O.GD.1 (vz this)).symm
     subst er;exact aT.ext ((Q.trans K).aj (ad _) _ _)
    ·intro o Y;rw[pA N];by_cases z:o=ix w
     ·subst z;rw[aq rfl,aq (gC ai.1).symm];omega
     ·rw[ae z,ae (λac=>z (by rw[ac,jZ]))];omega
   ·refine U V s ⟨Q.trans K,V,H.ext K,?_⟩;have bj:w<1000:=(C.cases aw).resolve_left (Vc.fb T G);rw[eH (g:=λa=>dw (h.take y) a+dJ (j.aI.take b) a)]
    ·exact p.ext K
    ·intro o Y;rw[pA N,ae V];omega
  ·have x:j.aI.take b=j.aI:=cE V;rw[x]at p;refine aa V r ⟨Q,?_,bA t ak C⟩
   rw[eH (g:=λa=>dw (h.take y) a+dJ j.aI a)]
   ·exact p
   ·intro o Y;exact KP t o
 have ei:h.take y=h:=cE V;rw[ei]at B2 ak h3;clear aa
 have a3:∀j∈h,∀w∈j.aI,iX h w\/w<1000:=λj u w N=>(ak j u).cases N;have ai:∀j∈h,∀w∈j.aI,1000<=w->ix w<h.length:=λj hm w N S=>by
  rcases a3 j hm w N with h1|h1
  ·exact ax (cq h1).1
  ·omega
 refine⟨λM=>m2=M/\mr h,⟨λh2=>?_,λh2=>⟨rfl,λj u=>?_⟩⟩,?_⟩
 ·simp at h2;rw[aP V V];obtain⟨j,u⟩:=ag (l:=h) (k:=h.length -1) V;obtain⟨e,hf,g1,_,_⟩:=(cW.ext x2 A).u u;have z:Int.toNat ((S.len:Int) -1)=h.length -1:=V;rw[z];refine⟨V,V,j.aQ,g1,λh3=>no x2 λB=>?_,λh3=>⟨rfl,λam hd=>?_⟩⟩
  ·exact B.iy j u (by simpa using h3)
  ·rw[u]at hd;simp at hd;subst hd;simpa using h3
 ·have:=ax u;simp at h2;omega
 rintro _ ⟨rfl,bo⟩;refine(zC (Mc B2 V) (by rw[mw];exact bm)).mono ?_;rintro _ R ⟨C,rfl,or,x3⟩;have z3:=x3.size;have B3:=B2.ext x3;have X3:=x2.trans x3;have bJ:=x2.size;obtain⟨F,aI⟩:∃F:Nat->Nat,F=λo=>if C.Di=false/\o=C.F then 2 else if o=m.size then 1 else 0:=⟨_,rfl⟩
 have aH:C.Di=false->m2.size<=C.F/\C.F<R.size:=λL=>by
  have aj:C≠.nil:=λz=>by rw[z]at L;simp at L
  exact⟨or.F.resolve_left aj,or.lt.resolve_left aj⟩
 have aY:∀o,o≠m.size->(C.Di=false->o≠C.F)->F o=0:=λo h4 G=>by
  rw[aI];exact(ae λA=>G A.1 A.2).trans (ae h4)
 have bu:F m.size=1:=by
  rw[aI];exact(ae λA=>by have:=aH A.1;omega).trans (aq rfl)
 have bq:∀o,R.size<=o->F o=0:=λo Y=>aY o V λL=>by have:=aH L;omega
 have bb:∀o,o<m.size->F o=0:=λo Y=>aY o V λL=>by have:=aH L;omega
 have A3:gY F R aB 1 2 C ((qI h.length (dw h)).map Ce.i):=gY.iC or λaj=>by
  rw[aI];refine aq ⟨?_,rfl⟩;cases C with
  |nil=>exact absurd rfl aj
  |_=>rfl
 have bC:=Q6 A3;clear aH aY aI;have aK:∀{c a8:Nat->Nat}{M M':I},dA (λb=>b=2\/b=6) c M a8 M'->To c M a8 M':=λu=>u.mono λb B=>V;have aO:∀{c:Nat->Nat}{M:I},dA (λb=>b=2\/b=6) F R c M->J m M:=λu=>((aK u).cF X3 bb).1;have a7:∀{c:Nat->Nat}{M:I},dA (λb=>b=2\/b=6) F R c M->cD M m.size aB ((qI h.length (dw h)).map Ce.i):=λu=>B3.congr (u.fw _ B3.lt (by rw[bu];decide));have bs:gY F R aB 1 6 .nil (([]:List Int).map Ce.i):=⟨E,E,Or.inl rfl⟩;refine⟨C,rfl,dt (σ:=O) (n:=h.length) V (λb T M=>∃c W,dA (λb=>b=2\/b=6) F R c M/\gY c M aB 1 2 C ((qI h.length (dw h)).map Ce.i)/\gY c M aB 1 6 T ((RI W).map Ce.i)/\W.Nodup/\(∀a∈W,a<b)/\(∀a,a<b->(dw h a=0<->a∈W))/\
  ∀(a:Nat)(j:bL),a<b->h[a]? =some j->0<j.aQ->dw h a<=j.aQ/\j.aQ<=999999) ⟨F,[],dA.aC _ bq,A3,bs,E,E,E,E⟩ ?_⟩
 rintro b T P I2 μ2 B ⟨ab,W,C4,A4,W4,av,al,aJ,aG⟩ aa
 have X4:=aO C4;refine dit (λh4=>?_) λh4=>?_
 ·have an:b<h.length:=V;obtain⟨j,ac⟩:=ag an;obtain⟨e,hf,g0,g1,g2⟩:=(cW.ext X4 A).u ac;rw[ap];refine⟨V,V,j.aQ,g0,j.lA,g1,e,g2,?_⟩;intro m5 r;have Q:J P r:=((J.aC P).aM _).aj (ad _) _ _;have s6:r.size=P.size+1:=by simp[r,m5,az]
  clear_value r;have ay:dA (λb=>b=2\/b=6) ab P ab r:=dA.fj _ Q C4.new;have C6:=C4.trans ay;have F6:dA (λ_=>False) ab P ab r:=dA.fj _ Q C4.new;have A6:=A4.fe F6 id;have W6:=W4.fe F6 id;have g6:=rK (a7 C6) an;have fx:(0<j.aQ->dw h b<=j.aQ/\j.aQ<=999999)->∀(a:Nat)(j:bL),a<b+1->h[a]? =some j->0<j.aQ->dw h a<=j.aQ/\j.aQ<=999999:=λL a am q hd=>by
   rcases aX a b with U|U
   ·exact aG a am U hd
   ·have:a=b:=V;subst this;rw[ac]at hd;simp at hd;subst hd;exact L
  have jJ:(0<j.aQ->dw h b<=j.aQ/\j.aQ<=999999)->((0:Int)<=b/\(b:Int)<(h.length:Int)/\∃t:Int,D r m.size (b*1)=some (vi t)/\
   ((t==(0:Int))=true->let x:I:=r.push (.cells (br [.i (b:Int)]) 3)
    iP x 3 [.i (0:Int)] 8 T (O.mk r.size 0 1 1) λH p=>dV [P.size] x p/\I2 H (cO ((b:Int)+(1:Int))) p/\μ2 H (cO ((b:Int)+(1:Int))) p<μ2 T b P)/\
   ((t==(0:Int))=false->I2 T (cO ((b:Int)+(1:Int))) r/\μ2 T (cO ((b:Int)+(1:Int))) r<μ2 T b P)):=λL=>by
   refine⟨V,V,_,by rw[dP];exact g6,λH=>?_,λH=>?_⟩
   ·intro s
    have K:J r s:=(J.aC r).aM _
    have k7:cD s r.size 3 [.i (b:Int)]:=cD.push r _ _
    have s7:s.size=r.size+1:=by simp[s]
    have F7:dA (λ_=>False) ab r ab s:=dA.fj _ K C6.new
    have C7:dA (λb=>b=2\/b=6) F R ab s:=C6.trans (dA.fj _ K C6.new)
    have aA:=W6.len
    simp[HG]at aA
    have aF:W.length<=h.length:=Dk _ _ av λa q=>by have:=al a q;omega
    refine gY.append (zs:=[.i 0]) (new:=[.i (b:Int)]) (W6.fe F7 id) C7.new E k7.jA (by simp only[O.fZ];omega) λt a6 m8 aC c8=>⟨?_,?_⟩
    ·exact(aK (c8.mono λp hj=>Or.inr hj)).de (by simp;exact⟨V,C4.new _ (ad _)⟩)
    ·refine aa V _ _ ⟨t,W++[b],C7.trans (c8.mono λp hj=>Or.inr hj),(A6.fe F7 id).fe c8 bd,by rw[Ig];simpa using aC,?_,λa q=>?_,λa q=>?_,fx L⟩
     ·rw[Yk]
      refine⟨av,E,λx Z aM X z=>?_⟩
      simp at X;subst X;subst z;have:=al _ Z;omega
     ·rcases List.mem_append.1 q with q|q
      ·have:=al a q;omega
      ·simp at q;omega
     ·rcases aX a b with X|X
      ·rw[aJ a X];simp;omega
      ·have:a=b:=V
       subst this
       simp at H;simp[H]
   ·refine aa V _ _ ⟨ab,W,C6,A6,W6,av,λa q=>by have:=al a q;omega,λa q=>?_,fx L⟩
    rcases aX a b with X|X
    ·exact aJ a X
    ·have:a=b:=V
     subst this
     simp at H
     simp only[H,YC]
     intro hm;have:=al _ hm;omega
  refine⟨λG=>⟨V,V,_,by rw[dP];exact g6,λU=>no (X4.trans Q) λB=>?_,λU=>⟨λH=>no (X4.trans Q) λB=>?_,λH=>jJ λ_=>by simp at U H;omega⟩⟩,λG=>jJ λU=>by simp at G;omega⟩
  ·have:=B.dw b j ac (by simpa using G);simp at U;omega
  ·have:=(B.cells j (ar ac)).hi;simp at H;omega
 have bg:b=h.length:=V;subst bg;clear aa h4
 have be:∀j∈h,mB h j:=λj u=>by
  obtain⟨a,q⟩:=List.mem_iff_getElem?.1 u;refine(ak j u).ok ?_;rcases wP 0 j.aQ with S|S
  ·exact(aG a j (ax q) q S).2
  ·omega
 have bl:∀(a:Nat)(j:bL),h[a]? =some j->0<j.aQ->dw h a<=j.aQ:=λa j q S=>(aG a j (ax q) q S).1;have bi:∀mk a,fQ mk 0 h a<=3*h.length:=λmk a=>by
  have:=MY mk 0 h a;have:=zk h a λj hm=>(ak j hm).fl;omega
 have K0:Ew h (λ_=>false) W (fQ (λ_=>false) 0 h):=⟨av,λa q=>⟨al a q,rfl⟩,λa q=>by rw[Bv,aJ a q];simp⟩;have c0:k8 (λ_=>false) h.length=0:=by
  generalize h.length=d;induction d with
  |zero=>rfl
  |succ d Q=>simp[k8,Q]
 refine Pn (γ:=(Nat->Bool)×List Nat) (λQ T a5 M=>∃c,a5=(k8 Q.1 h.length:Nat)/\dA (λb=>b=2\/b=6) F R c M/\gY c M aB 1 2 C ((qI h.length (fQ Q.1 0 h)).map Ce.i)/\gY c M aB 1 6 T ((RI Q.2).map Ce.i)/\Ew h Q.1 Q.2 (fQ Q.1 0 h)/\Qa h Q.1)
  (λQ=>h.length -k8 Q.1 h.length) (λ_=>false,W) ⟨ab,by rw[c0];rfl,C4,by rw[eH (g:=dw h) λo _=>Bv 0 h o];exact A4,W4,K0,λ_=>0,E,E⟩ ?_
 clear C4 A4 W4 K0 c0 X4 av al aJ aG;rintro⟨mk,W⟩ T a5 m5 I3 μ3 ⟨ac,rfl,C5,A5,W5,K5,O5⟩ aa
 simp only at A5 W5 K5 O5 aa
 have X5:=aO C5;have aA:=W5.len;simp[HG]at aA;have bw:=K5.len;refine⟨λG=>?_,λG=>?_⟩
 ·simp only[mz,ao]at G;have aj:W≠[]:=λz=>by subst z;simp at aA;omega
  obtain⟨W',a,rfl⟩:∃W' a,W=W'++[a]:=⟨W.dropLast,W.getLast aj,(gW aj).symm⟩;rw[Ig]at W5;obtain⟨p1,p2,p3⟩:=W5.Uy;rw[HG]at p1 p2 p3;have e1:cO ((T.len:Int) -1)=(W'.length:Int):=by rw[aP V V];omega
  obtain⟨aC,aS⟩:=K5.un a E;obtain⟨j,aF⟩:=ag aC;have af:=ar aF;have bf:=(ak j af).fl;obtain⟨e,hf,g0,g1,g2⟩:=(cW.ext X5 A).u aF;rw[e1,ap];have bD:=W5.le;refine⟨V,V,a,p2,V,V,?_⟩;rw[ap];refine⟨j.aQ,g0,j.lA,g1,e,g2,?_⟩;intro r s;have K:J m5 s:=((J.aC m5).aM _).aj (ad _) _ _;have s7:s.size=m5.size+1:=by simp[s,r,az]
  clear_value s;have F7:dA (λ_=>False) ac m5 ac s:=dA.fj _ K C5.new;have C7:dA (λb=>b=2\/b=6) F R ac s:=C5.trans (dA.fj _ K C5.new);have bz:=hf.len;have hz:fQ mk 0 h a=0:=(K5.zero a aC).2 (Or.inr E);have O7:=O5.set aC aS hz;have aV:=λx=>KN (mk:=mk) (e:=0) aF (by rw[bQ];exact aS) x;simp only[bQ]at aV;have es:=xg aS aC;have bx:=CS (lz mk a) h.length;have K7:Ew h (lz mk a) W' (λx=>fQ (lz mk a) 0 h x+dJ (j.aI.drop 0) x):=by
   have:=K5.Uy;refine⟨this.IJ,this.un,λx Z=>?_⟩;rw[<-this.zero x Z,aV,List.drop_zero];constructor<;>intro h<;>omega
  refine⟨V,V,V,dt (σ:=O) (n:=j.aI.length) V (λp wk M=>∃c W2,dA (λb=>b=2\/b=6) ac s c M/\gY c M aB 1 2 C ((qI h.length (λx=>fQ (lz mk a) 0 h x+dJ (j.aI.drop p) x)).map Ce.i)/\gY c M aB 1 6 wk ((RI W2).map Ce.i)/\Ew h (lz mk a) W2 (λx=>fQ (lz mk a) 0 h x+dJ (j.aI.drop p) x))
   ⟨ac,W',dA.aC _ C7.new,?_,?_,K7⟩ ?_⟩
  ·have:=A5.fe F7 id;rw[eH (g:=fQ mk 0 h) λo _=>by simp only[aV,List.drop_zero];omega];exact this
  ·exact p3.fe F7 id
  rintro p wk m8 I4 μ4 hj ⟨t,W2,C8,A8,W8,K8⟩ aW;have X8:=aO (C7.trans C8);have T8:=aK C8;have r7:m5.size<m8.size/\t m5.size=0:=⟨by have:=C8.size;omega,by rw[C8.iS _ V];exact C5.new _ (ad _)⟩;refine dit (λU=>?_) λU=>?_
  ·obtain⟨w,N⟩:=ag (l:=j.aI) (k:=p) V;have aw:=ar N;have aR:=aU j af w aw;have a4:j.aI.drop p=w::j.aI.drop (p+1):=by
    rw[oC (ax N)];congr 1;exact(List.getElem?_eq_some_iff.1 N).2
   obtain⟨f0,aT,_,_,w2⟩:=A.u aF;have er:f0=e:=by have:=X5.D w2;rw[g2]at this;exact(O.GD.1 (vz this)).symm
   subst er;refine⟨V,V,w,by simpa using(aT.ext X8).u N,(nJ (cW.ext X8 A) aR.2).mono ?_⟩;rintro _ m9 ⟨a6,b9,rfl,a2,bk,x9⟩;have z9:=x9.size;have F9:dA (λ_=>False) t m8 t m9:=dA.fj _ x9 C8.new;have C9:dA (λb=>b=2\/b=6) ac s t m9:=C8.trans (dA.fj _ x9 C8.new);have A9:=A8.fe F9 id;have W9:=W8.fe F9 id;refine⟨x9.de bF,a6,b9,rfl,λH=>?_,λH=>?_⟩
   ·have ai:=a2.1 H;have ah:=ax (cq ai).1;have e9:=bk H;subst e9;have am:∀x,dJ (j.aI.drop p) x=(if x=ix w then 1 else 0)+dJ (j.aI.drop (p+1)) x:=λx=>by rw[a4,gN ai.1]
    have bc:=am (ix w);rw[aq rfl]at bc;have n1:=Dq (lz mk a) 0 h (ix w);have n2:=bi (lz mk a) (ix w);have n3:=gB (j.aI.drop (p+1)) (ix w);have n4:=jO (j.aI.drop (p+1)) (ix w);have n5:(j.aI.drop (p+1)).length<=3:=bF;obtain⟨u1,u2,u3⟩:=Uh (e:=λx=>fQ (lz mk a) 0 h x+dJ (j.aI.drop p) x) (g:=λx=>fQ (lz mk a) 0 h x+dJ (j.aI.drop (p+1)) x) A9 ah (v:=fQ (lz mk a) 0 h (ix w)+dJ (j.aI.drop (p+1)) (ix w)) (λo _=>by
     rw[am];by_cases z:o=ix w
     ·subst z;rw[aq rfl]
     ·rw[ae z,ae z];omega) C9.new
    refine⟨V,V,_,Td A9 V ah,V,V,u1,?_⟩;rw[show cO (fQ (lz mk a) 0 h (ix w)+dJ (j.aI.drop p) (ix w) -1)=fQ (lz mk a) 0 h (ix w)+dJ (j.aI.drop (p+1)) (ix w)by rw[aP V V];omega];intro Q;have ay:dA (λb=>b=2\/b=6) ac s t Q:=C9.trans (u3.mono λb B=>Or.inl B);have bH:Q.size=m9.size:=az _ _ _ _;have aM:gY t Q aB 1 6 wk ((RI W2).map Ce.i):=W9.fe u3 bd;obtain⟨v1,v2⟩:=K8.rI (lf':=λx=>fQ (lz mk a) 0 h x+dJ (j.aI.drop (p+1)) x) ah (λx=>by
     rw[am];split<;>omega) (show 0<fQ (lz mk a) 0 h (ix w)+dJ (j.aI.drop p) (ix w)by omega)
    have a_:To t m9 t Q:=u3.mono λb B=>V;have aZ:gY t Q aB 1 2 C ((qI h.length (λx=>fQ (lz mk a) 0 h x+dJ (j.aI.drop (p+1)) x)).map Ce.i):=u2;clear_value Q;clear u2;refine⟨a_.de (by simp;exact⟨V,r7.2⟩),V,V,_,Td aZ V ah,λX=>?_,λX=>?_⟩
    ·intro an;have a9:J Q an:=(J.aC Q).aM _;have bp:cD an Q.size 3 [.i (ix w:Int)]:=cD.push Q _ _;have bI:an.size=Q.size+1:=by simp[an]
     have a1:dA (λ_=>False) t Q t an:=dA.fj _ a9 ay.new;have a0:dA (λb=>b=2\/b=6) ac s t an:=ay.trans (dA.fj _ a9 ay.new);have bh:=aM.len;simp[HG]at bh;have bB:=K8.len;refine gY.append (zs:=[.i 0]) (new:=[.i (ix w:Int)]) (aM.fe a1 id) a0.new E bp.jA (by simp only[O.fZ];omega) λbt q2 bG ba aQ=>⟨?_,?_⟩
     ·exact(aK (aQ.mono λp hj=>Or.inr hj)).de (by simp;exact⟨V,r7.2⟩)
     ·exact aW V _ _ ⟨bt,W2++[ix w],a0.trans (aQ.mono λp hj=>Or.inr hj),(aZ.fe a1 id).fe aQ bd,by rw[Ig];simpa using ba,v1 (by simpa using X)⟩
    ·exact aW V _ _ ⟨t,W2,ay,aZ,aM,v2 (by simpa using X)⟩
   ·have bj:w<1000:=(a3 j af w aw).resolve_left (Vc.fb a2 H);have am:∀x,dJ (j.aI.drop (p+1)) x=dJ (j.aI.drop p) x:=λx=>by
     rw[a4];simp only[dJ];rw[ae V];omega
    refine aW V _ _ ⟨t,W2,C9,?_,W9,?_⟩
    ·rw[eH (g:=λx=>fQ (lz mk a) 0 h x+dJ (j.aI.drop p) x) λo _=>by rw[am]];exact A9
    ·exact⟨K8.IJ,K8.un,λx Z=>by rw[am];exact K8.zero x Z⟩
  ·have Q:j.aI.drop p=[]:=FY V;have H:∀x,fQ (lz mk a) 0 h x+dJ (j.aI.drop p) x=fQ (lz mk a) 0 h x:=λx=>by rw[Q];simp[dJ]
   rw[show cO ((k8 mk h.length:Nat)+1:Int)=((k8 (lz mk a) h.length:Nat):Int)by rw[es,aP V V];omega];refine aa (lz mk a,W2) _ _ m8 ⟨t,rfl,C7.trans C8,?_,W8,⟨K8.IJ,K8.un,λx Z=>by have:=K8.zero x Z;rw[H]at this;exact this⟩,O7⟩ (by simp only[];omega)
   rw[eH (g:=λx=>fQ (lz mk a) 0 h x+dJ (j.aI.drop p) x) λo _=>(H o).symm];exact A8
 ·simp only[mz,bN]at G;have r:W=[]:=List.length_eq_zero_iff.1 V;subst r;have s:=R8 O5 ai λa q p=>((K5.zero a q).1 p).resolve_right E;refine⟨_,_,rfl,?_,λ_=>⟨m.size,rfl,ad _,a7 C5⟩,X5⟩;rw[aL,show((k8 mk h.length:Nat):Int)=(S.len:Int)<->k8 mk h.length=h.length by omega,s];exact⟨λq=>⟨bo,be,bl,q⟩,λB=>B.JK⟩
end
end Go.Proofs.YtakpkjhmbbfniaaGreat
