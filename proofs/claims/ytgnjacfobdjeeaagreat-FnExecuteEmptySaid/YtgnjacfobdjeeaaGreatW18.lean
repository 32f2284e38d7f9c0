/- Part of a proof, joined by a program. -/
import Derived.Test.YtgnjacfobdjeeaaGreatW11
import Derived.Test.YtgnjacfobdjeeaaGreatW13
import Derived.Test.YtgnjacfobdjeeaaGreatW15
import Derived.Test.YtgnjacfobdjeeaaGreatW16
import Derived.Test.YtgnjacfobdjeeaaGreatW17
set_option linter.unusedVariables false
set_option linter.unusedSimpArgs false
set_option linter.defProp false
set_option linter.constructorNameAsVariable false
set_option maxHeartbeats 8000000
set_option maxRecDepth 100000
namespace Go.Proofs.YtgnjacfobdjeeaaGreat
open Go.Vc
section
variable{a:List Int}
def Nz{i a b:Int}(l:iu a)(m:iu b)(o:I):EH cw 149 [vi i,vi a,vi b] o (vi (NJ i a b)):=by
 unfold iu at l m;have s: -2000000<=a*b/\a*b<=2000000:=by
  have c:(a*b).natAbs<=999*999:=by rw[Int.natAbs_mul];exact Lq V V
  omega
 have k:∀n:Int,(if(999:Int)<(if(-999:Int)>n then(-999:Int)else n)then(999:Int)else(if(-999:Int)>n then(-999:Int)else n))=EQ n:=λn=>by
  unfold EQ;repeat' split;all_goals omega
 have p:cW (a+b)=a+b:=aQ V V;have q:cW (a -b)=a -b:=aQ V V;have r:cW (a*b)=a*b:=aQ V V;apply IP;rw[p,q,r,k,k,k];unfold NJ;refine⟨λh=>by simp at h;omega,λ_=>⟨λh=>by simp at h;omega,λ_=>⟨λh=>by simp at h;omega,λ_=>⟨λh=>by simp at h;omega,λ_=>⟨λc=>?_,λc=>⟨λd=>?_,λd=>⟨λe=>?_,λe=>⟨λf=>⟨λj=>?_,λj=>?_⟩,λf=>?_⟩⟩⟩⟩⟩⟩⟩⟩
 ·simp at c;rw[ao c];exact⟨rfl,J.aB _⟩
 ·simp at c d;rw[ae c,ao d];exact⟨rfl,J.aB _⟩
 ·simp at c d e;rw[ae c,ae d,ao e];exact⟨rfl,J.aB _⟩
 ·simp at c d e f j;have g:i=4/\a<b:=⟨f,j⟩;rw[ae c,ae d,ae e,ao g];exact⟨rfl,J.aB _⟩
 ·simp at c d e f j;have g:¬(i=4/\a<b):=V;rw[ae c,ae d,ae e,ae g];exact⟨rfl,J.aB _⟩
 ·simp at c d e f;have g:¬(i=4/\a<b):=V;rw[ae c,ae d,ae e,ae g];exact⟨rfl,J.aB _⟩
def uN{c:I}{h i:Nat}{f:aX}{s:O}(A:af c h (i+3)=some (O.v s))(u:ap c s f.u){t:O}(v:ap c t a)(D:∀y∈a,0<=y/\y<f.u.length)(Q:a.length<=100000000):
 nY 101 [vp h i,O.v t] c (cv f a):=by
 apply wM (h,i)
 have P:=v.len
 have N:=u.len
 have w:Int.toNat (t.len:Int)=a.length:=V
 rw[w]
 refine⟨V,cE _,V,V,?_⟩
 intro g
 have C:J c g:=(J.aB c).aK _
 have G:cF g c.size aE ((cZ a.length).map Ce.i):=by rw[<-tE];exact cF.push c _ _
 have R:g.size=c.size+1:=by simp[g]
 clear_value g
 simp only[O.jm,O.ta,O.iE,cC]
 refine eU (n:=a.length) V (λb d=>J c d/\cF d c.size aE ((cv f (a.take b)++cZ (a.length -b)).map Ce.i)) ⟨C,by simpa[cv]using G⟩ ?_
 rintro b H L μ M ⟨d,e⟩ K
 refine dit (λB=>?_) λB=>?_
 ·obtain⟨y,p⟩:=ag (l:=a) (k:=b) V
  have q:=D y (ar p)
  have z:Int.toNat (b:Int)*1=b:=V
  refine⟨V,V,y,by simpa using d.af (v.E p),s,d.af A,q.1,V,_,d.af (u.pu q.1 q.2),V,V,?_⟩
  rw[z]
  have j:(cv f (a.take b)).length=b:=by simp[cv];omega
  refine⟨e.fH (by simp[j,jZ];omega),?_⟩
  refine K V _ ⟨d.ai (ad _) _ _,?_⟩
  have:=cF.ai (m:=H) (o:=b) (r:=[.i (E f.u y)]) e
  have x:iX ((cv f (a.take b)++cZ (a.length -b)).map Ce.i) b [.i (E f.u y)]=(cv f (a.take (b+1))++cZ (a.length -(b+1))).map Ce.i:=by
   have F:cZ (a.length -b)=0::cZ (a.length -(b+1)):=by
    have:a.length -b=(a.length -(b+1))+1:=V;rw[this];rfl
   rw[F,fD,ln _ _ _ _ (by simp[j])];simp only[dR,j,PD,cG,iX,gW];rw[bn p];simp[cv]
  rw[x]at this;exact this
 ·have j:b=a.length:=V
  subst j
  rw[eZ,PD]at e
  simp only[cZ,Mj,dI]at e
  refine⟨_,rfl,⟨by simp[cv],Or.inr ⟨c.size,a.length,[],rfl,ad _,by rw[dI];exact e,by simp[cv],ad _⟩⟩,d⟩
abbrev IB(d p:O)(c:Int)(s:St)(aW b a:O):List Ce:=[.s d,.s p,.i c,.i s.bU,.i s.value,.i s.bq,.i s.bA,.s aW,.s b,.s a]
def Bv(g:I)(i:Nat->Nat)(m:I)(h:Nat)(f p:O)(e:Int)(s:St)(c:I):Prop:=
 ∃d aW b a,tJ g d c h bu (IB f p e s aW b a) aW b a s.aW s.heap s.az/\To i m d c
def Bv.from{b:I}{g h:Nat->Nat}{m e a:I}{f:Nat}{d p:O}{c:Int}{s:St}(j:Bv b h e f d p c s a)(o:To g m h e):Bv b g m f d p c s a:=
 let⟨q,aW,n,i,k,l⟩:=j
 ⟨q,aW,n,i,k,o.trans l⟩
section
variable{p:I}{d s:Nat->Nat}{m g:I}{q e:Nat}{i:List Ce}{aW k b:O}{n:List Int}{l:List bX}{c:List aX}{f:aX}{r o h:O}{j:List (List Ce)}
def ST.Zs(S:ST p d m q e i aW k b n l c f r o h j)(a:dv (λ_=>False) d m s g):ST p s g q e i aW k b n l c f r o h j/\To d m s g:=by
 obtain⟨L,t⟩:=S.cO.fU (a.mono λ_=>False.elim) (S.cO.heap.eV a id id);exact⟨⟨L,S.fP.eV a λ_ _=>id⟩,t⟩
def ST.fp(S:ST p d m q e i aW k b n l c f r o h j)(a:f.u.length<=1000000/\f.aR.length<=1000000/\f.bo.length<=1000000):FP m b.F (b.off+c.length*6) f r o h:=by
 obtain⟨_,_,_,g,s,t⟩:=S.fP.iP;exact⟨g,s,t,S.zQ a.1,S.Ix a.2.1,S.Qc a.2.2⟩
def qW(S:ST p d m q e i aW k b n l c f r o h j){s:Int}(a:0<=s)(u:s<f.u.length)(v:s<f.aR.length)(w aR:Int):
 aO cw 98 [vp b.F (b.off+c.length*6),vi s,vi w,vi aR] m λ_ g=>ST p d g q e i aW k b n l c (f.put s w aR) r o h j/\To d m d g:=by
 apply zt (b.F,b.off+c.length*6)
 obtain⟨_,_,_,y,z,C⟩:=S.fP.iP
 have E:r.len=f.u.length:=by have:=S.fP.u.len;simp at this;omega
 have D:o.len=f.aR.length:=by have:=S.fP.aR.len;simp at this;omega
 obtain⟨t,A⟩:=S.DF a u w
 obtain⟨x,B⟩:=t.pJ a (by simpa using v) aR
 exact⟨r,y,o,z,a,V,S.fP.u.Og a u,a,V,t.fP.aR.Og a v,x,A.trans B⟩
end
section
variable{n:I}{j:Nat->Nat}{b:I}{l:Nat}{d p aW e g:O}{c:Int}{s:St}{k:List aX}{f:aX}{u t h:O}{q:List (List Ce)}
def ST.Nx{c:Nat}{a:List Ce}{i:List Int}{d:List bX}(S:ST n j b l c a aW e g i d k f u t h q):
 ST n (pT j b.size 5) (ai (b.push (.cells (bG [.s O.nil]) dV)) b.size 0 [.s e]) l c a aW e g i d k f u t h q/\To j b (pT j b.size 5) (ai (b.push (.cells (bG [.s O.nil]) dV)) b.size 0 [.s e])/\
  cF (ai (b.push (.cells (bG [.s O.nil]) dV)) b.size 0 [.s e]) b.size dV [.s e]:=by
 have v:J b (ai (b.push (.cells (bG [.s O.nil]) dV)) b.size 0 [.s e]):=((J.aB b).aK _).ai (ad _) _ _
 have s:dv (λ_=>False) j b (pT j b.size 5) (ai (b.push (.cells (bG [.s O.nil]) dV)) b.size 0 [.s e]):=dv.pT v S.cO.new (ad _) (by rw[av];simp) 5
 obtain⟨p,w⟩:=S.Zs s
 exact⟨p,w,cF.ai (m:=b.push (.cells (bG [.s O.nil]) dV)) (o:=0) (r:=[.s e]) (cF.push b _ _)⟩
def CL(S:ST n j b l bu (IB d p c s aW e g) aW e g s.aW s.heap k f u t h q)(r:Int){z:O}(F:ap b z a)(R:a.length<=1000000)(E:s.heap.length<=1000000000):
 aO cw 100 [vp l 0,vi r,O.v z] b λQ x=>Q=vi (1000+dA s.heap)/\∃y w,ST n y x l bu (IB d p c s aW w g) aW w g s.aW (iH s.heap (dA s.heap) ⟨1,r,a⟩) k f u t h q/\To j b y x:=by
 apply uJ (l,0)
 simp -zeta only[aD,aC]
 refine⟨e,S.cO.box.cp 8,?_⟩
 intro T K
 obtain⟨m,M,H⟩:=S.Nx
 have G:J b K:=((J.aB b).aK _).ai (ad _) _ _
 refine(Ds m.cO.heap m.cO.new H (gJ _ _ _) r (F.ext G) E V m.cO.bY.size).mono ?_
 rintro _ U ⟨L,o,rfl,C,I,B⟩
 obtain⟨v,N⟩:=m.fU B C
 refine⟨_,rfl,o,I.cp 0,v.cO.mg (i:=8) D,?_⟩
 intro W
 obtain⟨A,P⟩:=v.je 8 [.s o]
 exact⟨rfl,L,o,A,(M.trans N).trans P⟩
def Fe(S:ST n j b l bu (IB d p c s aW e g) aW e g s.aW s.heap k f u t h q){x:Instr}{Z ax:O}(ha:ap n Z x.args)(aj:∀y∈x.args,0<=y/\y<f.u.length)(aF:x.args.length<=4)
 (aI:f.u.length=f.aR.length/\f.bo.length=f.aR.length/\f.aR.length<=2000)(aH:0<=x.bW/\x.bW<=f.bo.length)(am:s.heap.length<=1000000000)(aq:∀w∈f.bo,w≠0->1000<=w/\ix w<s.heap.length):
 aO cw 99 [vp l 0,vp g.F (g.off+k.length*6),xv x Z ax] b λaB m'=>∃(K:Nat->Nat)(G:O)(m:Nat)(a:aX),aB=vi (1000+m)/\ST n K m' l bu (IB d p c s aW G g) aW G g s.aW (iH s.heap m ⟨1,x.bN,cv f x.args⟩) k a u t h q/\To j b K m'/\
  a.u=f.u/\a.aR=f.aR/\a.pc=f.pc/\(∀z,nm s k {f with pc:=z} x x.bN={s with heap:=iH s.heap m ⟨1,x.bN,cv f x.args⟩,az:=k++[aX.put {a with pc:=z+1} x.dst (1000+m) 1]}):=by
 apply rJ (l,0) (g.F,g.off+k.length*6)
 simp -zeta only[aD,aC]
 intro I
 have av:J b I:=(J.aB b).aK _
 have s1:I.size=b.size+1:=by simp[I]
 obtain⟨A,t1⟩:=S.ext av
 have X:xZ j I [b.size]:=λaE hb=>by simp at hb;subst hb;exact⟨V,S.cO.new _ (ad _)⟩
 clear_value I
 have Y:=A.fp ⟨V,V,V⟩
 have aG:h.len=f.bo.length:=by have:=S.fP.bo.len;simp at this;omega
 refine(uN Y.g3 Y.u (ha.ext A.cO.bY) aj V).mono ?_
 rintro _ R ⟨D,rfl,U,aa⟩
 obtain⟨r,W⟩:=A.ext aa
 have M:=X.to W
 have aK:(cv f x.args).length=x.args.length:=by simp[cv]
 have H:ap R D (cv f x.args):=ap.fV U V
 have ah:=t1.trans W
 have none:¬(x.bW≠0/\E f.bo (x.bW -1)≠0)->aO cw 100 [vp l 0,vi x.bN,O.v D] R λay Q=>eE [b.size] R Q/\∃ag:Int,ay=vi ag/\∃(K:Nat->Nat)(G:O)(m:Nat)(a:aX),vi ag=vi (1000+m)/\ST n K Q l bu (IB d p c s aW G g) aW G g s.aW (iH s.heap m ⟨1,x.bN,cv f x.args⟩) k a u t h q/\To j b K Q/\
  a.u=f.u/\a.aR=f.aR/\a.pc=f.pc/\(∀z,nm s k {f with pc:=z} x x.bN={s with heap:=iH s.heap m ⟨1,x.bN,cv f x.args⟩,az:=k++[aX.put {a with pc:=z+1} x.dst (1000+m) 1]}):=λar=>by
  refine(CL r x.bN H V am).mono ?_
  rintro _ T ⟨rfl,aA,au,w,v⟩
  exact⟨v.dF M,_,rfl,aA,au,dA s.heap,f,rfl,w,ah.trans v,rfl,rfl,rfl,λz=>by rw[nm,ae ar];rfl⟩
 refine⟨W.dF X,D,rfl,λF=>none λN=>by simp at F;exact N.1 F,λF=>?_⟩
 simp at F
 have e1:cW (x.bW -1)=x.bW -1:=aQ V V
 have i:0<=x.bW -1/\x.bW -1<f.bo.length:=V
 have L:=r.fp ⟨V,V,V⟩
 have gh:=L.bo.pu i.1 i.2
 refine⟨h,L.g5,?_⟩
 rw[e1]
 refine⟨V,V,_,gh,λC=>none λN=>by simp at C;exact N.2 C,λC=>?_⟩
 simp at C
 obtain⟨ac,af⟩:=aq _ (eW i.1 i.2) C
 have aJ:=r.cO.heap.len
 refine⟨h,L.g5,V,V,_,gh,h,L.g5,V,V,r.fP.bo.Og i.1 i.2,?_⟩
 intro T
 obtain⟨w,v⟩:=r.Bo i.1 i.2 0
 have B3:=M.to v
 have an:ix (E f.bo (x.bW -1))=(E f.bo (x.bW -1) -1000).toNat:=rfl
 have e2:cW (E f.bo (x.bW -1) -1000)=E f.bo (x.bW -1) -1000:=aQ V V
 refine⟨v.dF M,e,w.cO.box.cp 8,?_⟩
 rw[e2,<-an]
 refine⟨V,V,w.cO.heap.wr (o:=0) af bh,?_⟩
 intro m4
 have P:cv f x.args≠[]->j D.F=0:=λy=>by
  rcases U.F with B|B
  ·subst B;have:=H.len;simp at this;exact absurd (List.length_eq_zero_iff.1 this.symm) y
  ·exact S.cO.new _ V
 have aw:ap T D (cv f x.args):=gL H λy=>v.dW _ (iB H y) (by rw[P y];simp)
 have al:h.cap≠0:=λB=>by have:=(r.fP.bo.uf B).1;simp at this;rw[this]at i;simp at i;omega
 have ai:Ra n.size j T e s.heap D (cv f x.args):=Ra.of A.cO.heap (λh0=>(bd _ _ _ _ λB=>by have q1:=(r.fP.bo.F al).2;have q2:=(r.cO.heap.F h0).1;rw[B,q1]at q2;omega).trans (aa.same _ (A.cO.heap.F h0).2)) (λy=>U.congr (v.dW _ (iB H y) (by rw[P y];simp))) P A.cO.bY.size
 obtain⟨ak,c4⟩:=w.cO.heap.setCell w.cO.new af 1 x.bN aw ai
 obtain⟨S4,t4⟩:=w.fU (c4.mono λab hk=>Or.inl hk) ak
 have ab:iH s.heap (ix (E f.bo (x.bW -1))) ⟨1,x.bN,cv f x.args⟩=s.heap.set (ix (E f.bo (x.bW -1))) ⟨1,x.bN,cv f x.args⟩:=by rw[iH,ae V]
 refine⟨t4.dF B3,j,e,ix (E f.bo (x.bW -1)),{f with bo:=gF f.bo (x.bW -1) 0},by rw[iI ac],by rw[ab];exact S4,(ah.trans v).trans t4,rfl,rfl,rfl,λz=>?_⟩
 rw[nm,ao ⟨F,C⟩,ab,iI ac];rfl
end
end
section
variable{w:Int}
def Km:∀(b:List Int)(g:List bX),(∀v∈b,gE g v)->∀x,gE g x->gE (jy g b) x
 |[],g,_,x,c=>c
 |v::b,g,d,x,c=>by
  have f:=d v ba;have e:∀y,gE g y->gE (nl g v) y:=λy a=>⟨a.1,(j8.nl f _).2 a.2⟩;exact Km b (nl g v) (λy a=>e y (d y (aj _ a))) x (e x c)
def Rr{h:List bX}(c:gE h w)(d:(aJ h w).aS≠1){x:Int}(a:gE h x):gE (fg h w) x:=by
 obtain⟨b,f⟩:=bZ c;refine⟨a.1,?_⟩;by_cases e:ix x=ix w
 ·rw[e];unfold fg;rw[j8.FA b];simp only[];omega
 ·exact(j8.ne e).2 a.2
section
variable{t:I}{e:Nat->Nat}{m:I}{j:Nat}{d p aW b g:O}{c:Int}{s:St}{q:List aX}{a:aX}{r v h:O}{u:List (List Ce)}
open Classical in
noncomputable def rE (g:List bX) (w:Int) (dW:Bool):List bX:=
 if(aJ g w).aS=1/\dW=true then g.set (ix w) ⟨-1,0,cZ (aJ g w).aL.length⟩else apart g w
def CM(S:ST t e m j bu (IB d p c s aW b g) aW b g s.aW s.heap q a r v h u)(ac:gE s.heap w)(dW:Bool){aB:Nat->Int}(Q:fE s.heap aB)(aZ:s.heap.length<=1000000000):
 aO cw 108 [vp j 0,vi w,vb dW] m λx B=>∃I:Bool,x=vb I/\(I=true<->(aJ s.heap w).aS=1/\dW=true)/\∃az av,ST t az B j bu (IB d p c s aW av g) aW av g s.aW (rE s.heap w dW) q a r v h u/\To e m az B:=by
 apply uK (j,0)
 simp -zeta only[aD,aC]
 obtain⟨E,a7⟩:=bZ ac
 have M:=ax E
 have a2:=S.cO.heap.len
 have a1:=ac.1
 have aL:ix w=(w -1000).toNat:=rfl
 have e4:cW (w -1000)=w -1000:=aQ V V
 have ai:=Q.cell _ (ar E)
 have a4:=ai.hi
 have aX:=ai.fl
 have g8:af m j 8=some (O.v b):=S.cO.box.cp 8
 obtain⟨f0,g0,g1,g2,gf,gr⟩:=S.cO.heap.cp E
 have aY:=gf.len
 rw[e4,<-aL]
 refine⟨b,g8,V,V,λB=>B=m/\¬((aJ s.heap w).aS=1/\dW=true),⟨_,g0,λz=>⟨λA=>?_,λA=>⟨rfl,λy=>by rw[A]at y;simp at y⟩⟩,λz=>⟨rfl,λy=>by simp at z;exact z y.1⟩⟩,?_⟩
 ·simp at z
  have Y:Int.toNat (f0.len:Int)=(aJ s.heap w).aL.length:=V
  refine⟨f0,g2,V,cE _,V,V,?_⟩
  rw[Y]
  intro C
  have N:J m C:=(J.aB m).aK _
  have P:gG m C aE 1 (.mk m.size 0 (aJ s.heap w).aL.length (aJ s.heap w).aL.length) ((cZ (aJ s.heap w).aL.length).map Ce.i):=by
   have Z:C=m.push (.cells (bG ((cZ (aJ s.heap w).aL.length).map Ce.i)) aE):=by rw[<-tE]
   rw[Z];exact MU _
  obtain⟨F,R⟩:=S.ext N
  clear_value C
  refine⟨F.cO.heap.wr (o:=0) M bh,?_⟩
  intro m2
  obtain⟨H,G⟩:=F.cO.heap.setCell F.cO.new M (-1) 0 (ap.fV P (by rw[jZ];omega)) (Ra.of S.cO.heap (λy=>N.same _ (S.cO.heap.F y).2) (λ_=>P) (λ_=>S.cO.new _ (ad _)) S.cO.bY.size)
  obtain⟨K,L⟩:=F.fU (G.mono λy A=>Or.inl A) H
  refine⟨true,rfl,by simp[z,A],e,b,?_,R.trans L⟩
  rw[rE,ao ⟨z,A⟩];exact K
 ·rintro C ⟨rfl,au⟩
  have am:(false=true<->(aJ s.heap w).aS=1/\dW=true):=⟨λh=>by simp at h,λh=>absurd h au⟩
  rw[show rE s.heap w dW=apart s.heap w by rw[rE,ae au]]
  refine⟨_,g0,λz=>?_,λz=>?_⟩
  ·simp at z
   refine⟨S.cO.heap.wr (o:=0) M bh,?_⟩
   intro m2
   obtain⟨H,G⟩:=S.cO.heap.setCell S.cO.new M 0 0 (f:=.nil) (b:=[]) ⟨rfl,D,D,D⟩ (λW=>absurd rfl W)
   obtain⟨K,L⟩:=S.fU (G.mono λy A=>Or.inl A) H
   refine⟨b,K.cO.box.cp 8,?_⟩
   intro m3 m4
   obtain⟨F,X,T⟩:=K.Nx
   refine(uh F.cO.heap F.cO.new T (gJ _ _ _) bJ).mono ?_
   rintro _ m5 ⟨ab,U,P⟩
   obtain⟨N,t5⟩:=F.fU P ab
   refine⟨_,U.cp 0,N.cO.mg (i:=8) D,?_⟩
   intro m6
   obtain⟨R,t6⟩:=N.je 8 [.s (b.cut 0 (iR (s.heap.set (ix w) ⟨0,0,[]⟩) (s.heap.set (ix w) ⟨0,0,[]⟩).length) 3)]
   refine⟨false,rfl,am,_,b.cut 0 (iR (s.heap.set (ix w) ⟨0,0,[]⟩) (s.heap.set (ix w) ⟨0,0,[]⟩).length) 3,?_,((L.trans X).trans t5).trans t6⟩
   rw[apart,ao z];exact R
  ·simp only[ak]at z
   have Y:cW ((aJ s.heap w).aS -1)=(aJ s.heap w).aS -1:=aQ V V
   refine⟨_,g0,S.cO.heap.wr (o:=0) M bh,?_⟩
   rw[Y]
   intro m2
   obtain⟨H,G⟩:=S.cO.heap.tj S.cO.new E ((aJ s.heap w).aS -1)
   obtain⟨f1,k0,k1,k2,kf,kr⟩:=H.cp (eA E)
   simp only[]at kf kr
   have a0:=kf.len
   refine⟨f1,k2,?_⟩
   have al:∀{B},dv (λy=>y=3) e C e B->af B j 8=some (O.v b):=λhc=>by rw[aN (hc.dW _ S.cO.box.lt (by rw[S.cO.PG];decide))];exact g8
   have aq:∀x∈(aJ s.heap w).aL,1000<=x->gE (fg s.heap w) x:=λx F b=>Rr ac z (Q.field (ar E) F b)
   have aK:∀X∈fg s.heap w,-10<=X.aS/\X.aS<=999999:=λX hq=>by
    rcases nI hq with rfl|⟨I,_,R⟩
    ·simp only[];omega
    ·have:=Q.cell X (ar R);have h5:=this.lo;have h6:=this.hi;omega
   have aU:dv (λy=>y=3) e C e m2:=G
   refine eU (n:=(aJ s.heap w).aL.length) V (λy B=>dT t.size e B b (jy (fg s.heap w) (kL ((aJ s.heap w).aL.take y)))/\dv (λy=>y=3) e C e B/\ap B f1 (aJ s.heap w).aL) ⟨H,G,kf⟩ ?_
   rintro y m3 aT μ A ⟨U,K,aw⟩ ay
   refine dit (λh5=>?_) λh5=>?_
   ·obtain⟨x,F⟩:=ag (l:=(aJ s.heap w).aL) (k:=y) V
    have aS:x<=9223372036854775807:=by
     rcases dL (1000<=x)with h6|h6
     ·have:=ax (bZ (Q.field (ar E) (ar F) h6)).1;unfold ix at this;omega
     ·omega
    have aR:(jy (fg s.heap w) (kL ((aJ s.heap w).aL.take y))).length=s.heap.length:=by rw[vO];simp[fg]
    have aM:1000<=x->gE (jy (fg s.heap w) (kL ((aJ s.heap w).aL.take y))) x:=λb=>Km _ _ (λN L=>aq N (fR (lW.1 L).1) (lW.1 L).2) x (aq x (ar F) b)
    refine⟨V,V,x,by simpa using aw.E F,b,al K,(gT (U.cells (by rw[aR];omega)) aS).mono ?_⟩
    rintro _ m4 ⟨aA,I,rfl,R,aH,aa⟩
    have N:dv (λy=>y=3) e C e m4:=K.trans (dv.eN _ aa K.new)
    have L:=U.eV (dv.eN (λ_=>False) aa K.new) id id
    have ah:=aw.ext aa
    refine⟨aA,I,rfl,λaj=>?_,λaI=>ay V _ ⟨?_,N,ah⟩⟩
    ·have an:=R.1 aj
     have aG:=aH aj
     subst aG
     obtain⟨T,a5⟩:=bZ an
     have aP:=ax T
     have a3:=L.len
     obtain⟨f4,j0,_⟩:=L.cp T
     have aV:=zO _ _ 999999 aK _ (ar T)
     have a6:=nM ((aJ s.heap w).aL.take y)
     have a8:((aJ s.heap w).aL.take y).length<=3:=bJ
     have Z:cW ((aJ (jy (fg s.heap w) (kL ((aJ s.heap w).aL.take y))) x).aS+1)=(aJ (jy (fg s.heap w) (kL ((aJ s.heap w).aL.take y))) x).aS+1:=aQ V V
     have aF:Int.toNat ((ix x:Nat):Int)=ix x:=V
     refine⟨b,al N,?_⟩
     rw[aF]
     refine⟨V,V,_,j0,V,V,L.wr (o:=0) aP bh,?_⟩
     rw[Z]
     obtain⟨ab,P⟩:=L.tj N.new T ((aJ (jy (fg s.heap w) (kL ((aJ s.heap w).aL.take y))) x).aS+1)
     refine ay V _ ⟨?_,N.trans P,gL ah λW=>P.dW _ (iB ah W) (by rw[(kr W).1];decide)⟩
     have:kL [x]=[x]:=by simp[kL,an.1]
     rw[bn F,oP,this,DB]
     exact ab
    ·have P:¬1000<=x:=λb=>fb R aI (aM b)
     have:kL [x]=[]:=by simp[kL];omega
     rw[bn F,oP,this,dI];exact L
   ·rw[cN V]at U
    obtain⟨L,N⟩:=S.fU (K.mono λy A=>Or.inl A) U
    refine⟨false,rfl,am,e,b,?_,N⟩
    rw[apart,ae z];exact L
def IQ(aa:ST t e m j bu (IB d p c s aW b g) aW b g s.aW s.heap q a r v h u){f:Instr}{ab an:O}(ha:ap t ab f.args)(al:∀z∈f.args,0<=z/\z<a.u.length)(ar:f.args.length<=4)(aw:f.op=0\/f.op=1\/f.op=2\/f.op=3\/f.op=4\/f.op=5)(h5:f.op=5->f.args.length=1)(h2:f.op≠0->f.op≠5->f.args.length=2)(af:f.op≠0->∀z∈f.args,iu (E a.u z))
 (au:a.u.length=a.aR.length/\a.bo.length=a.aR.length/\a.aR.length<=2000)(F:0<=f.dst/\f.dst<a.aR.length)(ax:s.aW.length<=1000000000):
 aO cw 97 [vp j 0,vp g.F (g.off+q.length*6),xv f ab an] m λ_ w=>Bv t e m j d p c (if f.op=0 then{s with az:=q++[a.put f.dst f.bN 0]}else if f.op=5 then{s with aW:=s.aW++[E a.u (E f.args 0)],az:=q++[a.put f.dst (E a.u (E f.args 0)) 0]}else{s with az:=q++[a.put f.dst (NJ f.op (E a.u (E f.args 0)) (E a.u (E f.args 1))) 0]}) w:=by
 apply sX (j,0) (g.F,g.off+q.length*6)
 simp -zeta only[aD,aC]
 intro y
 have am:J m y:=(J.aB m).aK _
 have s1:y.size=m.size+1:=by simp[y]
 obtain⟨P,t1⟩:=aa.ext am
 have Y:xZ e y [m.size]:=λac C=>by simp at C;subst C;exact⟨V,aa.cO.new _ (ad _)⟩
 clear_value y
 have F1:=P.fp ⟨V,V,V⟩
 refine(uN F1.g3 F1.u (ha.ext P.cO.bY) al V).mono ?_
 rintro _ l ⟨ws,rfl,ow,ak⟩
 obtain⟨A,T⟩:=P.ext ak
 have M:=Y.to T
 have ay:(cv a f.args).length=f.args.length:=by simp[cv]
 have G:ap l ws (cv a f.args):=ap.fV ow V
 have aA:=G.len
 have aj:=t1.trans T
 have X:∀{H:Nat},H<f.args.length->(cv a f.args)[H]? =some (E a.u (E f.args H)):=λ{H} hk=>by
  obtain⟨z,hy⟩:=ag hk;simp[cv,hy,Xd hy]
 have ai:∀{N:I}(hx:J l N)(L:Int),aO cw 98 [vp g.F (g.off+q.length*6),vi f.dst,vi L,vi 0] N λ_ w=>eE [m.size] N w/\Bv t e m j d p c {s with az:=q++[a.put f.dst L 0]} w:=λhx L=>by
  obtain⟨SM,tM⟩:=A.ext hx;refine(qW SM F.1 V F.2 L 0).mono ?_;rintro _ w ⟨S',t'⟩;exact⟨t'.dF (M.to tM),e,aW,b,g,S'.cO,(aj.trans tM).trans t'⟩
 refine⟨T.dF Y,ws,rfl,λo=>?_,λn=>⟨λo=>?_,λR=>?_⟩⟩
 ·simp at o;rw[ao o];exact ai (J.aB _) _
 ·simp at n o
  rw[ae n,ao o]
  have h1:=h5 o
  have av:(O.len aW)=s.aW.length:=by have:=A.cO.aW.len;simp at this;omega
  refine⟨V,V,_,G.E (k:=0) (X V),aW,A.cO.box.cp 7,?_⟩
  intro K
  have B:J l K:=(J.aB l).aK _
  have jg:fN K l.size 0 [.i (E a.u (E f.args ((0:Nat):Int)))]:=(cF.push l _ _).iP
  obtain⟨Q,t3⟩:=A.ext B
  have Z:=M.to t3
  clear_value K
  refine gY.append (c:=[.i 0]) (x:=.mk l.size 0 1 1) (d:=[.i (E a.u (E f.args 0))]) Q.cO.aW Q.cO.new rfl jg (by simp only[O.iE];omega) λah S m4 q1 q2=>?_
  have aq:gY ah m4 aE 1 2 S ((s.aW++[E a.u (E f.args 0)]).map Ce.i):=by simpa using q1
  obtain⟨S4,U⟩:=Q.KI q2 aq
  have B4:=Z.to U
  refine⟨U.dF Z,S4.cO.mg (i:=7) D,?_⟩
  intro m5
  obtain⟨S5,W⟩:=S4.je 7 [.s S]
  have B5:=B4.to W
  refine⟨W.dF B4,(qW S5 F.1 V F.2 (E a.u (E f.args 0)) 0).mono ?_⟩
  rintro _ m6 ⟨S6,t6⟩
  exact⟨t6.dF B5,ah,S,b,g,S6.cO,(((aj.trans t3).trans U).trans W).trans t6⟩
 ·simp at n R
  rw[ae n,ae R]
  have h1:=h2 n R
  refine⟨V,V,_,G.E (k:=0) (X V),V,V,_,G.E (k:=1) (X V),?_⟩
  refine(Nz (af n _ (eW V V)) (af n _ (eW V V)) l).mono ?_
  rintro _ K ⟨rfl,B⟩
  exact⟨B.dm (λac C=>(M ac C).1),_,rfl,ai B _⟩
end
end
section
variable{e j v b z:Nat}{y:cH}{g:Int}{q:dw}{a:I}{t:List Int}
section
variable{F:I}{B:Nat->Nat}{A:I}{C:Nat}{d p aW G x:O}{c:Int}{s:St}{u:List aX}{f:aX}{r o h:O}{H:List (List Ce)}
def NA(S:ST F B A C bu (IB d p c s aW G x) aW G x s.aW s.heap u f r o h H){b:Instr}{m aF:O}(U:ap F m b.args)(ai:∀y∈b.args,0<=y/\y<f.u.length)(av:1<=b.args.length/\b.args.length<=4)
 (aM:f.u.length=f.aR.length/\f.bo.length=f.aR.length/\f.aR.length<=2000)(aA:s.heap.length<=1000000000)(al:∀q∈f.aR,0<=q/\q<=999999)
 (aB:gE s.heap (E f.u (E b.args 0))){aq:Nat->Int}(hI:fE s.heap aq){X:Int}(am:f.pc=X+1):
 aO cw 103 [vp C 0,vp x.F (x.off+u.length*6),xv b m aF] A λ_ a=>Bv F B A C d p c (tc s u {f with pc:=X} b) a:=by
 apply vD (C,0) (x.F,x.off+u.length*6)
 simp -zeta only[aD,aC]
 intro Q
 have aE:J A Q:=(J.aB A).aK _
 have s1:Q.size=A.size+1:=by simp[Q]
 obtain⟨T,t1⟩:=S.ext aE
 have B1:xZ B Q [A.size]:=λah L=>by simp at L;subst L;exact⟨V,S.cO.new _ (ad _)⟩
 clear_value Q
 have aP:r.len=f.u.length:=by have:=S.fP.u.len;simp at this;omega
 have aN:o.len=f.aR.length:=by have:=S.fP.aR.len;simp at this;omega
 have aL:h.len=f.bo.length:=by have:=S.fP.bo.len;simp at this;omega
 have aH:=U.len
 have aG:=U.cap
 have K:0<=E b.args 0/\E b.args 0<f.u.length:=ai _ (eW V V)
 have ga:∀{a},J F a->af a m.F (m.off+Int.toNat (0:Int)*1)=some (vi (E b.args 0)):=λhx=>(U.ext hx).pu V V
 obtain⟨_,_,_,g3,_,_⟩:=T.fP.iP
 generalize hw:E f.u (E b.args 0)=w at*
 refine⟨r,g3,V,V,_,ga T.cO.bY,K.1,V,w,by rw[<-hw];exact(T.zQ V).pu K.1 K.2,(CM T aB (b.op==17) hI aA).mono ?_⟩
 rintro _ m2 ⟨ah,rfl,L,v,M,P,Y⟩
 have Z:=B1.to Y
 have au:(b.op==17)=true<->b.op=17:=D
 rw[au]at L
 have e1:Int.toNat (1:Int)=1:=rfl
 have e2:Int.toNat (m.len:Int)=m.len:=V
 have aa:∀{a},J F a->ap a (O.cut m 1 m.len 1) (b.args.drop 1):=λhx=>T4 (U.ext hx) av.1
 have aI:(O.cut m 1 m.len 1).len=b.args.length -1:=by have:=(aa (J.aB F)).len;simp at this;omega
 have aK:(b.args.drop 1).length=b.args.length -1:=D
 have aj:∀y∈b.args.drop 1,0<=y/\y<f.u.length:=λy t=>ai y (wC t)
 rw[e1,e2]
 refine⟨Y.dF B1,ah,rfl,λay=>?_,λax=>?_⟩
 ·obtain⟨_,_,_,_,_,g5⟩:=P.fP.iP
  have W:=L.1 ay
  refine⟨h,g5,V,V,_,ga P.cO.bY,K.1,V,P.fP.bo.Og K.1 V,?_⟩
  intro m3
  obtain⟨S3,t3⟩:=P.Bo K.1 V w
  have B3:=Z.to t3
  refine⟨t3.dF Z,V,V,V,?_⟩
  refine eU (n:=(b.args.drop 1).length) V (λe a=>ST F v a C bu (IB d p c s aW M x) aW M x s.aW (rE s.heap w (b.op==17)) u {f with bo:=gF f.bo (E b.args 0) w,aR:=dz f.aR ((b.args.drop 1).take e)} r o h H/\To B A v a/\xZ v a [A.size]) ⟨by rw[List.take_zero];exact S3,(t1.trans Y).trans t3,B3⟩ ?_
  rintro e m4 an μ hk ⟨g,R,N⟩ ac
  have ab:∀q∈dz f.aR ((b.args.drop 1).take e),0<=q/\q<=1000010:=λq hq=>by
   have:=qE _ f.aR 999999 V al q hq;have h3:((b.args.drop 1).take e).length<=4:=bJ;omega
  refine dit (λh1=>?_) λh1=>?_
  ·obtain⟨y,t⟩:=ag (l:=b.args.drop 1) (k:=e) V
   have j:=aj y (ar t)
   have z:y<(dz f.aR ((b.args.drop 1).take e)).length:=by rw[lD];omega
   have aw:=EN (i:=y) ab V
   have e3:cW (E (dz f.aR ((b.args.drop 1).take e)) y+1)=E (dz f.aR ((b.args.drop 1).take e)) y+1:=aQ V V
   obtain⟨_,_,_,_,g4,_⟩:=g.fP.iP
   refine⟨V,V,y,by simpa using(aa g.cO.bY).E t,o,g4,j.1,V,_,(g.Ix (by simp only[lD];omega)).pu j.1 z,j.1,V,g.fP.aR.Og j.1 z,?_⟩
   rw[e3]
   intro m5
   obtain⟨S5,I⟩:=g.pJ j.1 z (E (dz f.aR ((b.args.drop 1).take e)) y+1)
   refine⟨I.dF N,ac V _ ⟨?_,R.trans I,N.to I⟩⟩
   rw[bn t,sg];exact S5
  ·rw[cN V]at g
   refine⟨v,aW,M,x,?_,R⟩
   have:tc s u {f with pc:=X} b={s with heap:=rE s.heap w (b.op==17),az:=u++[{f with bo:=gF f.bo (E b.args 0) w,aR:=dz f.aR (b.args.drop 1)}]}:=by
    unfold tc;simp only[];rw[hw,ao W,rE,ao (by simpa using W),am]
   rw[this];exact g.cO
 ·have ak:¬((aJ s.heap w).aS=1/\b.op=17):=λW=>by have:=L.2 W;rw[ax]at this;simp at this
  refine⟨V,V,V,?_⟩
  refine eU (n:=(b.args.drop 1).length) V (λe a=>ST F v a C bu (IB d p c s aW M x) aW M x s.aW (rE s.heap w (b.op==17)) u {f with aR:=dz f.aR ((b.args.drop 1).take e)} r o h H/\To B A v a/\xZ v a [A.size]) ⟨by simpa[dz]using P,t1.trans Y,Z⟩ ?_
  rintro e m4 an μ hk ⟨g,R,N⟩ ac
  have ab:∀q∈dz f.aR ((b.args.drop 1).take e),0<=q/\q<=1000010:=λq hq=>by
   have:=qE _ f.aR 999999 V al q hq;have h3:((b.args.drop 1).take e).length<=4:=bJ;omega
  refine dit (λh1=>?_) λh1=>?_
  ·obtain⟨y,t⟩:=ag (l:=b.args.drop 1) (k:=e) V
   have j:=aj y (ar t)
   have z:y<(dz f.aR ((b.args.drop 1).take e)).length:=by rw[lD];omega
   have aw:=EN (i:=y) ab V
   have e3:cW (E (dz f.aR ((b.args.drop 1).take e)) y+1)=E (dz f.aR ((b.args.drop 1).take e)) y+1:=aQ V V
   obtain⟨_,_,_,_,g4,_⟩:=g.fP.iP
   refine⟨V,V,y,by simpa using(aa g.cO.bY).E t,o,g4,j.1,V,_,(g.Ix (by simp only[lD];omega)).pu j.1 z,j.1,V,g.fP.aR.Og j.1 z,?_⟩
   rw[e3]
   intro m5
   obtain⟨S5,I⟩:=g.pJ j.1 z (E (dz f.aR ((b.args.drop 1).take e)) y+1)
   refine⟨I.dF N,ac V _ ⟨?_,R.trans I,N.to I⟩⟩
   rw[bn t,sg];exact S5
  ·rw[cN V]at g
   refine⟨v,aW,M,x,?_,R⟩
   have:tc s u {f with pc:=X} b={s with heap:=rE s.heap w (b.op==17),az:=u++[{f with aR:=dz f.aR (b.args.drop 1)}]}:=by
    unfold tc;simp only[];rw[hw,ae ak,rE,ae (by simpa using ak),am]
   rw[this];exact g.cO
def oU.none{B:Nat->Nat}{A:I}:oU B A .nil []:=⟨[],gY.fV (gG.nil A A _ _) (λa=>absurd rfl a),rfl,D,D⟩
def GU(S:ST F B A C bu (IB d p c s aW G x) aW G x s.aW s.heap u f r o h H)(ag:u.length<=100000)(w:Int)(Z:∀g,u.getLast?=some g->0<=f.dst/\f.dst<g.u.length/\f.dst<g.aR.length):
 aO cw 109 [vp C 0,vi w] A λ_ a=>Bv F B A C d p c (match u.getLast? with|none=>{s with bU:=0,value:=w,az:=[]}|some g=>{s with az:=u.dropLast++[g.put f.dst w (fW w)]}) a:=by
 apply sA (C,0)
 simp -zeta only[aD,aC]
 have I:=S.fP.xH
 have ac:=S.fP.pS.le
 have n:cW ((x.len:Int) -1)=(u.length:Int):=by rw[aQ V V];omega
 have P:Int.toNat (u.length:Int)=u.length:=V
 have q:af A C 9=some (O.v x):=S.cO.box.cp 9
 obtain⟨_,_,U,_,_,_⟩:=S.fP.iP
 refine⟨x,q,x,q,?_⟩
 rw[n,P]
 refine⟨V,V,f.dst,U,x,q,V,V,V,S.cO.mg (i:=9) D,?_⟩
 intro J
 obtain⟨l,L⟩:=S.cO.je 9 [.s (x.cut 0 u.length 6)]
 obtain⟨b,_⟩:=l.jz (dv.aB _ l.new) (l.az.Uo)
 have ad:(x.cut 0 u.length 6).len=u.length:=by
  cases x with
  |nil=>simp at I
  |zn e K j=>simp at I
  |mk e K t c=>simp[O.cut]
 have e3:Int.toNat (0:Int)=0:=rfl
 refine⟨λv=>?_,λv=>?_⟩
 ·have M:u=[]:=by simpa using v
  subst M
  refine⟨b.mg (i:=3) (by simp[kH]),?_⟩
  intro m3
  obtain⟨e,y⟩:=b.je 3 [.i 0]
  refine⟨e.mg (i:=4) (by simp[kH]),?_⟩
  intro m4
  obtain⟨j,z⟩:=e.je 4 [.i w]
  refine⟨j.mg (i:=9) (by simp[kH]),?_⟩
  intro N
  obtain⟨k,Q⟩:=j.je 9 [.s .nil]
  obtain⟨E,_⟩:=k.jz (dv.aB _ k.new) (oU.none (B:=B) (A:=N))
  exact⟨B,aW,G,.nil,E,((L.trans y).trans z).trans Q⟩
 ·have k:u≠[]:=by simpa using v
  have ah:u.length≠0:=λn=>k (List.length_eq_zero_iff.1 n)
  obtain⟨g,e⟩:∃g,u.getLast?=some g:=⟨_,eT k⟩
  obtain⟨W,X,Y⟩:=Z g e
  rw[e]
  simp only[]
  have aa:u=u.dropLast++[g]:=by
   rw[eT k]at e;simp at e;rw[<-e];exact(dX k).symm
  have j:tJ F B J C bu (IB d p c s aW G (x.cut 0 u.length 6)) aW G (x.cut 0 u.length 6) s.aW s.heap (u.dropLast++[g]):=
   ⟨b.bY,b.jK,b.new,b.box,b.PG,b.aW,b.heap,by rw[<-aa];exact b.az⟩
  obtain⟨r',K,h',ab,T⟩:=j.az.fP
  have ae:u.dropLast.length=u.length -1:=D
  have Q:cW ((u.length:Int) -1)=((u.length -1:Nat):Int):=by rw[aQ V V];omega
  have R:Int.toNat ((u.length -1:Nat):Int)=u.dropLast.length:=V
  refine⟨x.cut 0 u.length 6,j.box.cp 9,?_⟩
  rw[Q,R]
  refine⟨V,V,(mN w J).mono ?_⟩
  rintro _ m3 ⟨rfl,E⟩
  obtain⟨M,y⟩:=(ST.mk j T).ext E
  refine⟨_,rfl,E.cV (j.box.cp 9),(qW M W X Y w (fW w)).mono ?_⟩
  rintro _ m4 ⟨N,z⟩
  exact⟨B,aW,G,_,N.cO,(L.trans y).trans z⟩
end
def XK{m M:I}(n:J m M){d:Nat}(r:m.size<=d)(x:d<M.size)(b:Nat)(l:List Ce)
 (c:(e=M.size\/e=M.size+1\/e=M.size+2)/\(j=M.size\/j=M.size+1\/j=M.size+2)/\(v=M.size\/v=M.size+1\/v=M.size+2)/\e≠j/\e≠v/\j≠v):
 o8 m (ai (((M.push (.cells (bG (ni [.i (0:Int)] b)) 3)).push (.cells (bG (ni [.i (0:Int)] b)) 3)).push (.cells (bG (ni [.i (0:Int)] b)) 3)) d 0 l) e j v b (cZ b) (cZ b) (cZ b):=by
 rw[tE]
 generalize f:M.push (.cells (bG ((cZ b).map Ce.i)) 3)=m2
 generalize g:m2.push (.cells (bG ((cZ b).map Ce.i)) 3)=m3
 generalize h:m3.push (.cells (bG ((cZ b).map Ce.i)) 3)=m4
 have o:m2.size=M.size+1:=by simp[<-f]
 have p:m3.size=M.size+2:=by simp[<-g,o]
 have y:m4.size=M.size+3:=by simp[<-h,p]
 have w:J M m2:=f▸J.push _ _
 have q:J m2 m3:=g▸J.push _ _
 have k:J m3 m4:=h▸J.push _ _
 have s:cF m4 M.size aE ((cZ b).map Ce.i):=((f▸cF.push M _ _:cF m2 M.size aE ((cZ b).map Ce.i)).ext q).ext k
 have t:cF m4 m2.size aE ((cZ b).map Ce.i):=(g▸cF.push m2 _ _:cF m3 m2.size aE ((cZ b).map Ce.i)).ext k
 have u:cF m4 m3.size aE ((cZ b).map Ce.i):=h▸cF.push m3 _ _
 have i:∀a,(a=M.size\/a=M.size+1\/a=M.size+2)->cF (ai m4 d 0 l) a aE ((cZ b).map Ce.i):=λa c=>by
  have:cF m4 a aE ((cZ b).map Ce.i):=by
   rcases c with rfl|rfl|rfl
   ·exact s
   ·rw[<-o];exact t
   ·rw[<-p];exact u
  exact this.congr (bd _ _ _ _ V)
 exact⟨(n.trans ((w.trans q).trans k)).ai r _ _,by have:=n.size;rw[av];omega,i _ c.1,i _ c.2.1,i _ c.2.2.1,by simp[jZ]⟩
def vG{m:I}{d p:O}(h:eu m d p y)(r:0<=g)(i:y.cA[g.toNat]? =some q)(b:0<=q.u/\q.u<=2000)(f:Int):
 aO cw 51 [.agg #[O.v d,O.v p],vi g,vi f] m λw a=>∃e j v,w=.agg #[vi g,vi 0,vi f,O.v (.mk e 0 q.u.toNat q.u.toNat),O.v (.mk j 0 q.u.toNat q.u.toNat),O.v (.mk v 0 q.u.toNat q.u.toNat)]/\
  o8 m a e j v q.u.toNat (cZ q.u.toNat) (cZ q.u.toNat) (cZ q.u.toNat):=by
 apply BG
 simp -zeta only[aD,aC]
 intro l c
 have k:J m c:=((J.aB m).aK _).aK _
 have t:l.size=m.size+1:=by simp[l]
 have F:c.size=m.size+2:=by simp[c,t]
 have B:=h.cA.len
 have A:=ax i
 clear_value c
 obtain⟨x,C,z,_,_,_,_,_,_,s,_⟩:=(h.ext k).cA.E i
 refine⟨r,V,q.u,s,⟨b.1,cE _,V,V,?_⟩,⟨b.1,cE _,V,V,?_⟩,⟨b.1,cE _,V,V,?_⟩⟩
 all_goals
  intro n
  refine⟨⟨b.1,cE _,V,V,?_⟩,⟨b.1,cE _,V,V,?_⟩⟩
  all_goals
   intro o
   refine⟨b.1,cE _,V,V,?_⟩
   intro D E
   have u:n.size=c.size+1:=by simp[n]
   have G:o.size=c.size+2:=by simp[o,u]
   exact⟨_,_,_,rfl,XK k V V q.u.toNat _ V⟩
def o8.DF{f:I}{u aR bo:List Int}(N:o8 f a e j v b u aR bo)(g:z<b)(c:Int):fH a e z 1/\o8 f (ai a e z [.i c]) e j v b (u.set z c) aR bo:=by
 have d:=N.lo;refine⟨N.kr.fH (by simp[N.len.1];omega),N.ext.ai d.1 _ _,by rw[av];exact d,?_,N.ko.congr (bd _ _ _ _ V),N.kh.congr (bd _ _ _ _ V),by simp[N.len]⟩;have:=cF.ai (m:=a) (o:=z) (r:=[.i c]) N.kr;rw[zU]at this;exact this
def o8.pJ{f:I}{u aR bo:List Int}(N:o8 f a e j v b u aR bo)(g:z<b)(c:Int):fH a j z 1/\o8 f (ai a j z [.i c]) e j v b u (aR.set z c) bo:=by
 have d:=N.lo;refine⟨N.ko.fH (by simp[N.len.2.1];omega),N.ext.ai d.2.1 _ _,by rw[av];exact d,N.kr.congr (bd _ _ _ _ V),?_,N.kh.congr (bd _ _ _ _ V),by simp[N.len]⟩;have:=cF.ai (m:=a) (o:=z) (r:=[.i c]) N.ko;rw[zU]at this;exact this
def xN(cJ:List Int):∀(t r:List Int)(k:Nat),dD cJ k (t++r)=dD cJ k t++dD cJ (k+t.length) r
 |[],r,k=>by simp[dD]
 |a::t,r,k=>by
  have:=xN cJ t r (k+1);simp only[cU,dD,this,aY];have e:k+(t.length+1)=k+1+t.length:=V;rw[e]
def Ll{k:Nat}(h:k<b):cZ (b -k)=0::cZ (b -(k+1)):=by
 have:b -k=(b -(k+1))+1:=V;rw[this];rfl
def U8(h:t.length<b)(v:Int):(t++cZ (b -t.length)).set t.length v=(t++[v])++cZ (b -(t.length+1)):=by
 rw[Ll h];simp
def Xt(h:t.length<b):t++cZ (b -t.length)=(t++[0])++cZ (b -(t.length+1)):=by
 rw[Ll h];simp
section
variable{F:I}{u:Nat->Nat}{m:I}{E:Nat}{d p aW C A:O}{c:Int}{s:St}{w:List aX}{B:aX}{r o h:O}{G:List (List Ce)}
def E8(ac:ST F u m E bu (IB d p c s aW C A) aW C A s.aW s.heap w B r o h G)(aY:eu F d p y)(ay:0<=g)(hq:y.cA[g.toNat]? =some q)(a0:0<=q.u/\q.u<=2000){ws:O}{z:List Int}(hw:ap m ws z)(a4:z≠[]->u ws.F=0)(bi:(z.length:Int)<=q.u)(ab:Instr)(ak a6:O)
 (bb:w.length<=10000)(a_:0<=s.bq/\s.bq<=100000):
 aO cw 107 [vp E 0,vi g,O.v ws,xv ab ak a6] m λ_ a=>Bv F u m E d p c {s with bq:=s.bq+1,az:=if ab.op=24 then w++[br y g B.dst z]else w++[B,br y g ab.dst z]} a:=by
 apply vC (E,0)
 simp -zeta only[aD,aC]
 intro X
 have a5:J m X:=(J.aB m).aK _
 have s1:X.size=m.size+1:=by simp[X]
 obtain⟨S1,t1⟩:=ac.ext a5
 have B1:xZ u X [m.size]:=λH K=>by simp at K;subst K;exact⟨V,ac.cO.new _ (ad _)⟩
 clear_value X
 have ba:=ac.fP.xH
 have a9:=ac.fP.pS.le
 have e0:cW (s.bq+1)=s.bq+1:=aQ V V
 have aM:cW ((A.len:Int) -1)=(w.length:Int):=by rw[aQ V V];omega
 have e2:Int.toNat (w.length:Int)=w.length:=V
 refine⟨s.bq,S1.cO.box.cp 5,S1.cO.mg (i:=5) D,?_⟩
 rw[e0]
 intro m2
 obtain⟨U,t2⟩:=S1.je 5 [.i (s.bq+1)]
 replace U:ST F u m2 E bu (IB d p c {s with bq:=s.bq+1} aW C A) aW C A s.aW s.heap w B r o h G:=U
 replace t2:To u X u m2:=t2
 have B2:=B1.to t2
 have g9:af m2 E 9=some (O.v A):=U.cO.box.cp 9
 obtain⟨_,_,g2,_,_,_⟩:=U.fP.iP
 refine⟨t2.dF B1,A,g9,?_⟩
 rw[aM,e2]
 clear_value m2
 have aH:=t1.trans t2
 refine⟨λQ a=>∃R ah,tJ F u a E bu (IB d p c {s with bq:=s.bq+1} aW C ah) aW C ah s.aW s.heap R/\To u m u a/\xZ u a [m.size]/\R.length<=10001/\(if ab.op=24 then w++[br y g B.dst z]else w++[B,br y g ab.dst z])=R++[br y g Q z],⟨λaa=>?_,λaa=>?_⟩,?_⟩
 ·simp at aa
  refine⟨A,g9,V,V,B.dst,g2,A,g9,V,V,V,U.cO.mg (i:=9) D,?_⟩
  intro W
  obtain⟨N,Y⟩:=U.cO.je 9 [.s (A.cut 0 w.length 6)]
  obtain⟨b,_⟩:=N.jz (dv.aB _ N.new) (N.az.Uo)
  refine⟨Y.dF B2,w,A.cut 0 w.length 6,b,aH.trans Y,B2.to Y,V,?_⟩
  rw[ao aa]
 ·simp at aa
  refine⟨w++[B],A,U.cO,aH,B2,bJ,?_⟩
  rw[ae aa];simp
 rintro Q W ⟨R,ah,N,Y,B3,hX,aS⟩
 rw[aS]
 have an:dx y g=q:=by simp[dx,hq]
 have am:=aY.ext N.bY
 refine⟨d,N.box.cp 0,p,N.box.cp 1,(vG am ay hq a0 Q).mono ?_⟩
 rintro _ S ⟨e,j,v,rfl,aj⟩
 have bc:=aj.lo
 have aP:=aj.ext
 have aw:∀H∈[m.size],H<W.size:=λH K=>(B3 H K).1
 have bf:m.size<W.size:=aw _ D
 refine⟨aP.dm aw,_,_,_,_,_,_,rfl,?_⟩
 intro m5 m6
 have aR:J S m6:=((J.aB S).aK _).ai (ad _) _ _
 have s6:m6.size=S.size+1:=by simp[m6,m5,av]
 have N6:=aj.OO aR
 clear_value m6
 have bh:=hw.len
 have iw:∀{M},J W M->ap M ws z:=λhx=>(gL hw λb=>Y.dW _ (iB hw b) (by rw[a4 b];decide)).ext hx
 obtain⟨pa,pl,pc,_,aX,_,_,k1,_,_,_⟩:=am.cA.E hq
 have be:=ax hq
 have bg:=am.cA.len
 have aA:∀(b:Nat),(q.cJ.any λL=>L==(b:Int))=true<->(b:Int)∈q.cJ:=λb=>D
 simp -zeta only[O.jm,O.ta,O.iE,cC]
 refine eU (n:=z.length) V (λb a=>o8 W a e j v q.u.toNat (z.take b++cZ (q.u.toNat -b)) (dD q.cJ 0 (z.take b)++cZ (q.u.toNat -b)) (cZ q.u.toNat)/\S.size<a.size) ⟨by simpa[dD]using N6,V⟩ ?_
 rintro b P a8 μ hk ⟨Z,s7⟩ aB
 have th:∀{ma mc:I},(∀H,H=S.size\/H=m.size->mc[H]? =ma[H]?)->eE [S.size,m.size] ma mc:=λhh H K=>hh H (by simpa using K)
 have tk:(z.take b).length=b:=bJ
 have aF:(dD q.cJ 0 (z.take b)).length=b:=by rw[lP,tk]
 refine dit (λh1=>?_) λh1=>?_
 ·obtain⟨L,hy⟩:=ag (l:=z) (k:=b) V
  have ek:Int.toNat (b:Int)*1=b:=V
  have ar:b<q.u.toNat:=V
  obtain⟨w8,T⟩:=Z.DF ar L
  have er:(z.take b++cZ (q.u.toNat -b)).set b L=z.take (b+1)++cZ (q.u.toNat -(b+1)):=by
   have:=U8 (t:=z.take b) (b:=q.u.toNat) V L;rw[tk]at this;rw[this,bn hy]
  rw[er]at T
  have eo:dD q.cJ 0 (z.take (b+1))=dD q.cJ 0 (z.take b)++[if q.cJ.any (λL=>L==(b:Int))then 0 else fW L]:=by
   rw[bn hy,xN,tk];simp[dD]
  refine⟨V,V,L,by simpa using(iw Z.ext).E hy,V,V,?_⟩
  rw[ek]
  refine⟨w8,?_⟩
  intro m8
  have s8:m8.size=P.size:=av _ _ _ _
  refine⟨th λH K=>bd _ _ _ _ V,?_⟩
  replace T:o8 W m8 e j v q.u.toNat (z.take (b+1)++cZ (q.u.toNat -(b+1))) (dD q.cJ 0 (z.take b)++cZ (q.u.toNat -b)) (cZ q.u.toNat):=T
  clear_value m8
  refine⟨p,T.ext.af (N.box.cp 1),ay,V,pl,T.ext.af k1,(lQ (aX.ext T.ext) _).mono ?_⟩
  rintro _ m9 ⟨H,rfl,K,al⟩
  have N9:=T.OO al
  have s9:=al.size
  refine⟨al.dm bJ,H,rfl,λaJ=>?_,λaI=>?_⟩
  ·have aK:¬((b:Int)∈q.cJ):=nb K aJ
   refine(mN L m9).mono ?_
   rintro _ aU ⟨rfl,ai⟩
   have au:=N9.OO ai
   have aV:=ai.size
   obtain⟨aT,aq⟩:=au.pJ ar (fW L)
   have aG:(dD q.cJ 0 (z.take b)++cZ (q.u.toNat -b)).set b (fW L)=dD q.cJ 0 (z.take (b+1))++cZ (q.u.toNat -(b+1)):=by
    have:=U8 (t:=dD q.cJ 0 (z.take b)) (b:=q.u.toNat) V (fW L);rw[aF]at this;rw[this,eo,ae (λhh=>aK ((aA b).1 hh))]
   rw[aG]at aq
   refine⟨ai.dm bJ,_,rfl,aN (ai.same S.size V) 4,V,V,aT,?_⟩
   intro aL
   refine⟨th λH K=>bd _ _ _ _ V,aB V _ ⟨aq,by simp only[aL,av];omega⟩⟩
  ·have ai:(b:Int)∈q.cJ:=yb K aI
   refine aB V _ ⟨?_,V⟩
   have:=Xt (t:=dD q.cJ 0 (z.take b)) (b:=q.u.toNat) V
   rw[aF]at this
   rw[eo,ao ((aA b).2 ai),<-this];exact N9
 ·have aZ:b=z.length:=V
  subst aZ
  rw[eZ]at Z
  have hc:dv (λ_=>False) u W (mF u e j v R.length) P:=Z.eV N.new
  obtain⟨a1,a2,a3⟩:=Z.pS (a:=u) (v:=R.length)
  obtain⟨L,t7⟩:=N.fU (hc.mono λ_=>False.elim) (N.heap.eV hc id id)
  have B7:xZ (mF u e j v R.length) P [S.size,m.size]:=λH K=>by
   simp at K;refine⟨V,?_⟩;unfold mF;rw[eM V,eM V,eM V];rcases K with rfl|rfl
   ·exact N.new _ V
   ·exact(B3 _ D).2
  refine⟨ah,L.box.cp 9,?_⟩
  intro T
  have al:J P T:=(J.aB P).aK _
  have jg:fN T P.size 0 [.i g,.i 0,.i Q,.s (.mk e 0 q.u.toNat q.u.toNat),.s (.mk j 0 q.u.toNat q.u.toNat),.s (.mk v 0 q.u.toNat q.u.toNat)]:=(cF.push P _ _).iP
  obtain⟨ai,aI⟩:=L.ext al
  have ar:=B7.to aI
  clear_value T
  have ch:=λ{b:Nat}{s:O}{t:List Ce}(ak:gY (mF u e j v R.length) P aE 1 b s t)=>ak.eV (dv.eN (λ_=>False) al L.new) id
  have aV:(br y g Q z).u=z++cZ (q.u.toNat -z.length):=by simp[br,an]
  have aU:(br y g Q z).aR=dD q.cJ 0 z++cZ (q.u.toNat -z.length):=by simp[br,an]
  have aT:(br y g Q z).bo=cZ q.u.toNat:=by simp[br,an]
  refine⟨al.cV (L.box.cp 9),oU.push ai.az ai.new (x:=.mk P.size 0 1 1) rfl (a:=br y g Q z) jg (by rw[aV];exact ch a1) (by rw[aU];exact ch a2) (by rw[aT];exact ch a3) V λaG qs a7 q1 q2=>?_⟩
  have aq:To _ T aG a7:=q2.mono λb hk=>V
  obtain⟨au,bk⟩:=ai.jz (q2.mono λb hk=>V) q1
  have aK:=ar.to aq
  refine⟨aq.dF ar,au.mg (i:=9) D,?_⟩
  intro bj
  obtain⟨aL,aJ⟩:=au.je 9 [.s qs]
  exact⟨aJ.dF aK,aG,aW,C,qs,aL,(((Y.trans t7).trans aI).trans aq).trans aJ⟩
end
end
section
def Lf(u:List Int):∀(b aR:List Int)(n:Int),(∀q∈aR,n<=q)->∀q∈bC u aR b,n -b.length<=q
 |[],aR,n,h,q,c=>by have:=h q c;simp;omega
 |r::b,aR,n,h,q,c=>by
  have k:∀d,(∀q∈d,n -1<=q)->q∈bC u d b->n -(r::b).length<=q:=λd j a=>by
   have:=Lf u b d (n -1) j q a;simp only[aY];omega
  rw[bC]at c;refine k _ (λg a=>?_) c;split at a
  ·rcases pD a with e|e
   ·rcases be r.toNat aR.length with f|f
    ·obtain⟨y,i⟩:=ag f;have:=h y (ar i);rw[JS i]at e;omega
    ·have:gF aR r (E aR r -1)=aR:=by unfold gF;exact ru f
     rw[this]at a;have:=h g a;omega
   ·have:=h g e;omega
  ·have:=h g a;omega
section
variable{t:I}{g:Nat->Nat}{m:I}{q:Nat}{d p aW j c:O}{a:St}{b:List aX}{f:aX}{r u h:O}{v:List (List Ce)}
def Qe{A:cH}{w:Instr}(C:yZ A a b f w){aR:List Int}(aL:aR=bC f.u f.aR (bS A w))(hM:jD A a f w aR)
 (ah:ST t g m q bu (IB d p (bI A) a aW j c) aW j c a.aW a.heap b f r u h v)(a_:eu t d p A){aq aV:O}(ha:ap t aq w.args)(hj:ap t aV w.ez)(cJ:a.heap.length<=900000000)(cO:a.aW.length<=900000000):
 aO cw 53 [vp q 0,vp c.F (c.off+b.length*6),xv w aq aV] m λ_ U=>Bv t g m q d p (bI A) (eC A a b f w aR) U:=by
 apply yp (q,0) (c.F,c.off+b.length*6)
 simp -zeta only[aD,aC]
 intro m1
 have cr:J m m1:=(J.aB m).aK _
 have s1:m1.size=m.size+1:=by simp[m1]
 obtain⟨S1,t1⟩:=ah.ext cr
 have B1:xZ g m1 [m.size]:=λS hb=>by simp at hb;subst hb;exact⟨V,ah.cO.new _ (ad _)⟩
 clear_value m1
 have cK:=C.LP
 have cM:aR.length=f.aR.length:=by rw[aL];exact jV _ _ _
 have cS:r.len=f.u.length:=by have:=ah.fP.u.len;simp at this;omega
 have cL:u.len=f.aR.length:=by have:=ah.fP.aR.len;simp at this;omega
 have cB:=ha.len
 have bl:w.args.length<=4:=C.kY.1
 have cQ:0<=f.pc/\f.pc<=100000:=by
  have ci:=C.F.pc;obtain⟨pq,_,cj,hP,_,_⟩:=C.I;rw[cj]at ci;have cR:=hP.len;omega
 have e4:cW (f.pc+1)=f.pc+1:=aQ V V
 have cI:b.length<=1000:=by
  have bV:=C.ok.depth;have cb:=C.ok.bq;have cf:=C.ok.bA;rw[C.fr]at bV;simp at bV;omega
 refine(vA (a_.ext S1.cO.bY) (S1.cO.box.cp 1) C.call (ha.ext S1.cO.bY) V C.kY.2.2.2.1).mono ?_
 rintro _ m2 ⟨ts,lt,rfl,bb,_,bi,b2,_⟩
 obtain⟨S2,t2⟩:=S1.ext bi
 have B2:=B1.to t2
 have cU:=Ia A w
 have bt:=bb.len
 have b3:bS A w≠[]->g ts.F=0:=λal=>by
  rcases b2 with y|y|y
  ·subst y;simp at bt;exact absurd (List.length_eq_zero_iff.1 bt.symm) al
  ·rw[y];refine ah.cO.jK _ (iB ha λh0=>?_);obtain⟨W,F⟩:=TB _ al;have:=Bt F;rw[h0]at this;simp at this
  ·exact ah.cO.new _ V
 refine⟨t2.dF B1,ts,lt,rfl,?_⟩
 refine eU (n:=(bS A w).length) V (λQ U=>ST t g U q bu (IB d p (bI A) a aW j c) aW j c a.aW a.heap b {f with aR:=bC f.u f.aR ((bS A w).take Q)} r u h v/\To g m2 g U) ⟨S2,dv.aB _ S2.cO.new⟩ ?_
 rintro Q m3 b8 μ hk ⟨S3,t3⟩ bv
 have B3:=B2.to t3
 have cd:(bC f.u f.aR ((bS A w).take Q)).length=f.aR.length:=jV _ _ _
 refine dit (λh1=>?_) λh1=>?_
 ·obtain⟨W,F⟩:=ag (l:=bS A w) (k:=Q) V
  have B:=C.JI W (ar F)
  obtain⟨_,_,_,K,M,_⟩:=S3.fP.iP
  have N:ap m3 ts (bS A w):=gL bb λal=>t3.dW _ (iB bb al) (by rw[b3 al];decide)
  have H:bC f.u f.aR ((bS A w).take (Q+1))=if 1000<=E f.u W then gF (bC f.u f.aR ((bS A w).take Q)) W (E (bC f.u f.aR ((bS A w).take Q)) W -1)else bC f.u f.aR ((bS A w).take Q):=by
   rw[bn F,uE];rfl
  refine⟨V,V,W,by simpa using N.E F,r,K,B.1,V,_,(S3.zQ (by show f.u.length<=_;omega)).pu B.1 B.2,λT=>?_,λT=>?_⟩
  ·simp only[Gu,au]at T
   have G:W<(bC f.u f.aR ((bS A w).take Q)).length:=V
   have P: -4<=E (bC f.u f.aR ((bS A w).take Q)) W/\E (bC f.u f.aR ((bS A w).take Q)) W<=999999:=by
    obtain⟨qq,aT,bf⟩:=kQ _ _ _ _ (og B.1 G);have h7:=C.NG qq (ar aT);have h8:=Lf f.u ((bS A w).take Q) f.aR 0 (λaA hq=>(C.NG aA hq).1) _ (eW B.1 G);have h9:((bS A w).take Q).length<=4:=bJ;omega
   have e5:cW (E (bC f.u f.aR ((bS A w).take Q)) W -1)=E (bC f.u f.aR ((bS A w).take Q)) W -1:=aQ V V
   refine⟨u,M,B.1,V,_,(S3.Ix (by show(bC _ _ _).length<=_;omega)).pu B.1 G,B.1,V,S3.fP.aR.Og B.1 G,?_⟩
   rw[e5]
   intro L
   obtain⟨z,t4⟩:=S3.pJ B.1 G (E (bC f.u f.aR ((bS A w).take Q)) W -1)
   refine⟨t4.dF B3,bv V _ ⟨?_,t3.trans t4⟩⟩
   rw[H,ao T];exact z
  ·simp only[Gu,bH]at T
   refine bv V _ ⟨?_,t3⟩
   rw[H,ae T];exact S3
 rw[cN V,<-aL]at S3
 clear bv cd hk h1 b3 bb b2 bt
 obtain⟨_,g1,_,_,_,_⟩:=S3.fP.iP
 refine⟨f.pc,g1,S3.fP.Uy,?_⟩
 rw[e4]
 intro L
 obtain⟨z,t4⟩:=S3.MQ (f.pc+1)
 have P:xZ g L [m.size]:=B3.to t4
 have b5:eE [m.size] m3 L:=t4.dF B3
 have ac:To g m g L:=((t1.trans t2).trans t3).trans t4
 clear t4
 replace z:ST t g L q bu (IB d p (bI A) a aW j c) aW j c a.aW a.heap b {f with aR:=aR,pc:=f.pc+1} r u h v:=z
 refine⟨b5,?_⟩
 clear b5 g1 S3 t3 B3 t2 B2 S2 bi b8 μ
 clear_value L
 have Y:∀{M M':I},eE [m.size] M M'->∀ay,af M' m.size ay=af M m.size ay:=λh ay=>aN (h _ D) ay
 have hd:=C.dst
 have bo:f.u.length=aR.length/\f.bo.length=aR.length/\aR.length<=2000:=V
 have aG:1<=w.args.length->0<=E w.args 0/\E w.args 0<f.u.length:=λh1=>C.arg _ (eW V V)
 have ga:∀{U},J t U->1<=w.args.length->af U aq.F (aq.off+Int.toNat (0:Int)*1)=some (vi (E w.args 0)):=λhx h1=>(ha.ext hx).pu V V
 have gr:∀{g m bx aW j c lo aB u h v own' pc'},ST t g m q bu bx aW j c lo aB b {f with aR:=own',pc:=pc'} r u h v->∀{ay:Int},0<=ay->ay<f.u.length->af m r.F (r.off+Int.toNat ay*1)=some (vi (E f.u ay)):=λah ay h0 h1=>(ah.zQ (by simp only[];omega)).pu h0 h1
 have am:∀{g m bx aW j c lo aB u h v own' pc'},ST t g m q bu bx aW j c lo aB b {f with aR:=own',pc:=pc'} r u h v->af m c.F (c.off+b.length*6+3)=some (O.v r):=λah=>ah.fP.iP.2.2.2.1
 have ct:∀r',r'∈w.args->E f.u r'<1000->iu (E f.u r'):=λr' cm aU=>by
  have b0:=C.arg r' cm;rcases C.F.MM _ (eW b0.1 b0.2)with T|T
  ·exact T
  ·omega
 obtain⟨pq,_,_,_,_,hI⟩:=C.I
 have aw:=hI.op
 clear hI
 have bA:∀{bw:Nat->Nat}{b1:O}{aB:List bX}{M:I}(SM:ST t bw M q bu (IB d p (bI A) {a with heap:=aB} aW b1 c) aW b1 c a.aW aB b {f with aR:=aR,pc:=f.pc+1} r u h v)(tM:To g m bw M)(BM:xZ bw M [m.size])(H bc:Int)(s':St),s'={a with heap:=aB,az:=b++[aX.put {f with aR:=aR,pc:=f.pc+1} w.dst H bc]}->
  aO cw 98 [vp c.F (c.off+b.length*6),vi w.dst,vi H,vi bc] M λ_ U=>eE [m.size] M U/\Bv t g m q d p (bI A) s' U:=λSM tM BM H bc s' y=>by
  refine(qW SM hd.1 (by show w.dst<f.u.length;omega) (by show w.dst<aR.length;omega) H bc).mono ?_
  rintro _ U ⟨S',t'⟩
  exact⟨t'.dF BM,_,aW,_,c,by rw[y];exact S'.cO,tM.trans t'⟩
 have bg:∀{M:I}(hx:J L M)(aa:Int)(s':St),s'={a with az:=b++[{f with aR:=aR,pc:=aa}]}->
  fH M c.F (c.off+b.length*6+1) 1/\eE [m.size] M (ai M c.F (c.off+b.length*6+1) [.i aa])/\Bv t g m q d p (bI A) s' (ai M c.F (c.off+b.length*6+1) [.i aa]):=λhx aa s' y=>by
  obtain⟨SM,tM⟩:=z.ext hx
  obtain⟨S',t'⟩:=SM.MQ aa
  exact⟨SM.fP.Uy,t'.dF (P.to tM),g,aW,j,c,by rw[y];exact S'.cO,(ac.trans tM).trans t'⟩
 refine⟨λy=>?_,λe0=>?_⟩
 ·simp only[bT,aF]at y
  have T:=C.kY.2.1
  have h2:=C.kY.2.2.1
  refine(IQ z ha C.arg bl y (λe5=>T (Or.inl e5)) (λe0 e5=>h2 V) (λe0 W F=>ct W F (hM.mZ V W F)) bo ⟨hd.1,by show w.dst<aR.length;omega⟩ V).mono ?_
  rintro _ Z ⟨aK,aY,aI,aM,L5,F⟩
  refine⟨F.dF P,aK,aY,aI,aM,?_,ac.trans F⟩
  have:eC A a b f w aR=(if w.op=0 then{a with az:=b++[aX.put {f with aR:=aR,pc:=f.pc+1} w.dst w.bN 0]}else if w.op=5 then{a with aW:=a.aW++[E f.u (E w.args 0)],az:=b++[aX.put {f with aR:=aR,pc:=f.pc+1} w.dst (E f.u (E w.args 0)) 0]}else{a with az:=b++[aX.put {f with aR:=aR,pc:=f.pc+1} w.dst (NJ w.op (E f.u (E w.args 0)) (E f.u (E w.args 1))) 0]}):=by
   unfold eC;simp only[];by_cases B:w.op=0
   ·rw[ao B,ao B]
   rw[ae B,ae B];by_cases G:w.op=5
   ·rw[ae V,ao G,ao G]
   ·rw[ao V,ae G]
  rw[this];exact L5
 simp only[bz,ak]at e0
 have be:¬(w.op=1\/w.op=2\/w.op=3\/w.op=4):=V
 have cu:∀H∈f.bo,H≠0->1000<=H/\ix H<a.heap.length:=λH hw al=>by
  obtain⟨h1,dd,cc,_⟩:=C.Kk H hw al;exact⟨h1,ax cc⟩
 refine⟨λy=>?_,λe6=>?_⟩
 ·simp only[aF]at y
  have h6:=C.kY.2.2.2.2.1 y
  refine(Fe z ha C.arg bl bo ⟨h6.1,h6.2.1⟩ V cu).mono ?_
  rintro _ Z ⟨aK,aI,B,R,rfl,X,F,er,eo,ep,ec⟩
  refine⟨F.dF P,_,rfl,Y (F.dF P) 1,(qW X hd.1 (by rw[er];show w.dst<f.u.length;omega) (by rw[eo];show w.dst<aR.length;omega) (1000+B) 1).mono ?_⟩
  rintro _ G ⟨K,N⟩
  refine⟨N.dF (P.to F),aK,aW,aI,c,?_,(ac.trans F).trans N⟩
  have h7:=ec f.pc
  have ab:R.pc=f.pc+1:=ep
  have h8:({R with pc:=f.pc+1}:aX)=R:=by rw[<-ab]
  rw[h8]at h7
  have:eC A a b f w aR=nm a b {f with aR:=aR} w w.bN:=by
   unfold eC nm;simp only[];rw[ae V,ae be,ae V,ao y];rfl
  rw[this]
  have h9:nm a b {f with aR:=aR} w w.bN={a with heap:=iH a.heap B ⟨1,w.bN,cv f w.args⟩,az:=b++[aX.put R w.dst (1000+B) 1]}:=h7
  rw[h9];exact K.cO
 simp only[ak]at e6
 have F4:FP L c.F (c.off+b.length*6) {f with aR:=aR,pc:=f.pc+1} r u h:=z.fp ⟨by show f.u.length<=_;omega,by show aR.length<=_;omega,by show f.bo.length<=_;omega⟩
 have b7:∀{bB:Value->I->Prop},(∀ws M,ap M ws (cv f w.args)->J L M->(cv f w.args≠[]->g ws.F=0)->bB (O.v ws) M)->aO cw 101 [vp c.F (c.off+b.length*6),O.v aq] L bB:=λhk=>by
  refine(uN F4.g3 F4.u (ha.ext z.cO.bY) C.arg V).mono ?_;rintro _ Z ⟨ws,rfl,ow,an⟩;have cp:(cv f w.args).length=w.args.length:=by simp[cv]
  have iw:ap Z ws (cv f w.args):=ap.fV (a:=cv f w.args) ow V;refine hk ws Z iw an λal=>?_;rcases ow.F with y|y
  ·subst y;have:=iw.len;simp at this;exact absurd (List.length_eq_zero_iff.1 this.symm) al
  ·exact z.cO.new _ y
 have bi:(eK A.aT).length<=12:=by
  have:=qS C.ok.fe.mw.types A.aT.length;rw[mL _ _ (ad _)]at this;exact this
 have cC:0<=bI A/\bI A<=12:=by unfold bI;omega
 refine⟨λy=>?_,λbD=>?_⟩
 ·simp only[aF]at y
  have ab:=C.kY.2.2.2.2.2.1 y
  refine⟨bI A,z.cO.box.cp 2,b7 λws Z iw an _=>?_⟩
  obtain⟨X,F⟩:=z.ext an
  have B5:=P.to F
  have R:=F.dF P
  have B:cW (bI A+w.bN)=bI A+w.bN:=aQ V V
  refine⟨R,ws,rfl,Y R 2,an.cV (z.cO.box.cp 2),Y R 1,?_⟩
  rw[B]
  refine(CL X (bI A+w.bN) iw (by simp[cv];omega) V).mono ?_
  rintro _ G ⟨rfl,bE,bj,K,N⟩
  have aZ:=N.dF B5
  refine⟨aZ,_,rfl,Y aZ 1,bA (b1:=bj) (aB:=iH a.heap (dA a.heap) ⟨1,bI A+w.bN,cv f w.args⟩) K ((ac.trans F).trans N) (B5.to N) _ _ _ ?_⟩
  unfold eC;simp only[];rw[ae V,ae be,ae V,ae e6,ao y]
 simp only[ak]at bD
 have Lr:eC A a b f w aR=(
  if w.op=14 then{a with heap:=nl a.heap (E f.u (E w.args 0)),az:=b++[{f with aR:=gF aR (E w.args 0) (E aR (E w.args 0)+1),pc:=f.pc+1}]}
  else if w.op=15 then{a with heap:=oX (iD a.heap [E f.u (E w.args 0)]),az:=b++[{f with aR:=aR,pc:=f.pc+1}]}
  else if w.op=16\/w.op=17 then tc a b {f with aR:=aR} w
  else if w.op=18 then{a with az:=b++[aX.put {f with aR:=aR,pc:=f.pc+1} w.dst (E f.u (E w.args 0)) (fW (E f.u (E w.args 0)))]}
  else if w.op=19 then{a with az:=b++[aX.put {f with aR:=aR,pc:=f.pc+1} w.dst (E (aJ a.heap (E f.u (E w.args 0))).aL w.bN) 0]}
  else if w.op=20 then{a with az:=b++[{f with aR:=aR,pc:=if E f.u (E w.args 0)=0 then w.bN else f.pc+1}]}
  else if w.op=22 then{a with az:=b++[{f with aR:=aR,pc:=w.bN}]}
  else if w.op=21 then{a with az:=b++[{f with aR:=aR,pc:=E w.ez (qU (cq A.aT w.bN) (aJ a.heap (E f.u (E w.args 0))).jQ)}]}
  else if w.op=9\/w.op=24 then{a with bq:=a.bq+1,az:=if w.op=24 then b++[br A w.bN f.dst (cv f w.args)]else b++[{f with aR:=aR,pc:=f.pc+1},br A w.bN w.dst (cv f w.args)]}
  else if w.op=11 then{a with bq:=a.bq+1,heap:=apart a.heap (E f.u (E w.args 0)),az:=b++[{f with aR:=aR,pc:=f.pc+1},br A ((aJ a.heap (E f.u (E w.args 0))).jQ -bI A) w.dst ((aJ a.heap (E f.u (E w.args 0))).aL++[E f.u (E w.args 1)])]}
  else match b.getLast? with|none=>{a with bU:=0,value:=E f.u (E w.args 0),az:=[]}|some aP=>{a with az:=b.dropLast++[aP.put f.dst (E f.u (E w.args 0)) (fW (E f.u (E w.args 0)))]}):=by
  unfold eC
  simp only[]
  rw[ae V,ae be,ae V,ae e6,ae bD]
  by_cases a1:w.op=14
  ·rw[ao a1,ao a1]
  rw[ae a1,ae a1]
  by_cases a2:w.op=15
  ·rw[ao a2,ao a2]
  rw[ae a2,ae a2]
  by_cases a3:w.op=16\/w.op=17
  ·rw[ao a3,ao a3];rfl
  rw[ae a3,ae a3]
  by_cases a4:w.op=18
  ·rw[ao a4,ao a4]
  rw[ae a4,ae a4]
  by_cases a5:w.op=19
  ·rw[ao a5,ao a5]
  rw[ae a5,ae a5]
  by_cases a6:w.op=20
  ·rw[ao a6,ao a6]
  rw[ae a6,ae a6]
  by_cases a7:w.op=21
  ·rw[ao a7,ae V,ao a7]
  rw[ae a7]
  by_cases a8:w.op=22
  ·rw[ao a8,ao a8]
  rw[ae a8,ae a8,ae a7]
  by_cases bd:w.op=9
  ·rw[ao bd,ao (Or.inl bd),ae V]
  rw[ae bd]
  by_cases a9:w.op=24
  ·rw[ao a9,ao (Or.inr a9),ao a9]
  rw[ae a9,ae (show¬(w.op=9\/w.op=24)by omega)]
  by_cases a0:w.op=11
  ·rw[ao a0,ao a0]
  rw[ae a0,ae a0]
  cases b.getLast?<;>rfl
 rw[Lr]
 clear Lr
 refine⟨λy=>?_,λbF=>?_⟩
 ·simp only[aF]at y
  rw[ao y]
  have h2:=C.kY.2.1 V
  have B:=aG V
  obtain⟨aj,bG⟩:=hM.UK y
  obtain⟨ab,ba⟩:=bZ aj
  have aU:=ax ab
  have bp:=z.cO.heap.len
  have bm:=aj.1
  have aH:ix (E f.u (E w.args 0))=(E f.u (E w.args 0) -1000).toNat:=rfl
  have e5:cW (E f.u (E w.args 0) -1000)=E f.u (E w.args 0) -1000:=aQ V V
  have bk:cW ((aJ a.heap (E f.u (E w.args 0))).aS+1)=(aJ a.heap (E f.u (E w.args 0))).aS+1:=aQ V V
  obtain⟨f0,k0,_⟩:=z.cO.heap.cp ab
  refine⟨j,z.cO.box.cp 8,r,am z,V,V,_,ga z.cO.bY V,B.1,V,_,gr z B.1 B.2,?_⟩
  rw[e5,<-aH]
  refine⟨V,V,_,k0,V,V,z.cO.heap.wr (o:=0) aU bh,?_⟩
  rw[bk]
  intro Z
  obtain⟨bs,c5⟩:=z.cO.heap.tj z.cO.new ab ((aJ a.heap (E f.u (E w.args 0))).aS+1)
  obtain⟨X,F⟩:=z.fU (c5.mono λQ hk=>Or.inl hk) bs
  have B5:=P.to F
  have aS:E w.args 0<aR.length:=V
  have bK:0<=E aR (E w.args 0)/\E aR (E w.args 0)<=999999:=by
   have hm:=eW (c:=aR) B.1 aS;refine⟨hM.nn _ hm,?_⟩;have hg:=og (c:=aR) B.1 aS;rw[aL]at hg;obtain⟨qq,aT,bf⟩:=kQ _ _ _ _ hg;have:=(C.NG qq (ar aT)).2;rw[<-aL]at bf;omega
  have e7:cW (E aR (E w.args 0)+1)=E aR (E w.args 0)+1:=aQ V V
  refine⟨F.dF P,u,X.fP.iP.2.2.2.2.1,V,V,_,ga X.cO.bY V,B.1,V,E aR (E w.args 0),(X.Ix (by show aR.length<=_;omega)).pu B.1 aS,B.1,V,X.fP.aR.Og B.1 aS,?_⟩
  rw[e7]
  intro G
  obtain⟨K,N⟩:=X.pJ B.1 aS (E aR (E w.args 0)+1)
  exact⟨N.dF B5,g,aW,j,c,K.cO,(ac.trans F).trans N⟩
 simp only[ak]at bF
 rw[ae bF]
 refine⟨λy=>?_,λbG=>?_⟩
 ·simp only[aF]at y
  rw[ao y]
  have h2:=C.kY.2.1 V
  have B:=aG V
  have bK:w.args=[E w.args 0]:=by
   cases hx:w.args with
   |nil=>rw[hx]at h2;simp at h2
   |cons W aS=>cases aS with
    |nil=>rfl
    |cons bk aS=>rw[hx]at h2;simp at h2
  have bk:=C.HE aL hM.nn
  have ht:bS A w=[E w.args 0]:=by unfold bS;rw[ao V];exact bK
  have bs:=bk.1
  rw[ht]at bs
  refine⟨j,z.cO.box.cp 8,?_⟩
  intro Z G
  obtain⟨K,N,kb⟩:=z.Nx
  have W:xZ (pT g L.size 5) G [m.size]:=P.to N
  replace K:ST t (pT g L.size 5) G q bu (IB d p (bI A) a aW j c) aW j c a.aW a.heap b {f with aR:=aR,pc:=f.pc+1} r u h v:=K
  replace N:To g L (pT g L.size 5) G:=N
  replace kb:cF G L.size dV [.s j]:=kb
  clear_value G
  refine⟨r,am K,V,V,_,ga K.cO.bY V,B.1,V,_,gr K B.1 B.2,(Ff K.cO.heap K.cO.new kb (gJ _ _ _) (Z:=λS=>gN b S+dj f.u aR S) (bs.congr λS=>rfl) bk.2 V).mono ?_⟩
  rintro _ m7 ⟨bN,aS,bL,bM,c7⟩
  obtain⟨S7,t7⟩:=K.fU c7 bL
  have B7:=W.to t7
  refine⟨t7.dF W,aS,bM.cp 0,S7.cO.mg (i:=8) D,?_⟩
  intro m8
  obtain⟨S8,t8⟩:=S7.je 8 [.s aS]
  exact⟨t8.dF B7,bN,aW,aS,c,S8.cO,((ac.trans N).trans t7).trans t8⟩
 simp only[ak]at bG
 rw[ae bG]
 refine⟨λy=>?_,λb9=>?_⟩
 ·simp only[bT,aF]at y
  rw[ao y]
  refine(NA z ha C.arg ⟨C.kY.2.2.2.1 y,bl⟩ bo V (λaA hq=>?_) (hM.Kv y).1 C.ok.heap (show f.pc+1=f.pc+1 from rfl)).mono ?_
  ·refine⟨hM.nn aA hq,?_⟩
   obtain⟨Q,hk⟩:=List.mem_iff_getElem?.1 hq
   simp only[]at hk
   rw[aL]at hk
   obtain⟨qq,aT,bf⟩:=kQ _ _ _ _ hk
   have:=(C.NG qq (ar aT)).2
   omega
  rintro _ Z ⟨aK,aY,aI,aM,L5,F⟩
  exact⟨F.dF P,aK,aY,aI,aM,L5,ac.trans F⟩
 simp only[bz,ak]at b9
 rw[ae V]
 refine⟨λy=>?_,λbK=>?_⟩
 ·simp only[aF]at y
  rw[ao y]
  have h2:=C.kY.2.1 V
  have B:=aG V
  refine⟨r,am z,V,V,_,ga z.cO.bY V,B.1,V,_,gr z B.1 B.2,(mN _ _).mono ?_⟩
  rintro _ Z ⟨rfl,an⟩
  obtain⟨X,F⟩:=z.ext an
  have R:=F.dF P
  exact⟨R,_,rfl,Y R 1,bA (aB:=a.heap) X (ac.trans F) (P.to F) _ _ _ rfl⟩
 simp only[ak]at bK
 rw[ae bK]
 refine⟨λy=>?_,λbL=>?_⟩
 ·simp only[aF]at y
  rw[ao y]
  have h2:=C.kY.2.1 V
  have B:=aG V
  obtain⟨aj,aS⟩:=hM.load y
  obtain⟨ab,ba⟩:=bZ aj
  have aU:=ax ab
  have bp:=z.cO.heap.len
  have bm:=aj.1
  have aH:ix (E f.u (E w.args 0))=(E f.u (E w.args 0) -1000).toNat:=rfl
  have e5:cW (E f.u (E w.args 0) -1000)=E f.u (E w.args 0) -1000:=aQ V V
  obtain⟨f0,_,_,k2,kf,_⟩:=z.cO.heap.cp ab
  have aT:=kf.len
  unfold lG at aw
  rw[ae V,ae V,ae V,ae V,ae V,ae V,ae V,ao y]at aw
  refine⟨j,z.cO.box.cp 8,r,am z,V,V,_,ga z.cO.bY V,B.1,V,_,gr z B.1 B.2,?_⟩
  rw[e5,<-aH]
  exact⟨V,V,f0,k2,aw.2.1,V,_,kf.pu aw.2.1 aS,bA (aB:=a.heap) z ac P _ _ _ rfl⟩
 simp only[ak]at bL
 rw[ae bL]
 refine⟨λy=>?_,λbM=>?_⟩
 ·simp only[aF]at y
  rw[ao y]
  have h2:=C.kY.2.1 V
  have B:=aG V
  refine⟨r,am z,V,V,_,ga z.cO.bY V,B.1,V,_,gr z B.1 B.2,λT=>?_,λT=>?_⟩
  ·simp at T;exact bg (J.aB _) _ _ (by rw[ao T])
  ·simp at T;exact⟨g,aW,j,c,by rw[ae T];exact z.cO,ac⟩
 simp only[ak]at bM
 rw[ae bM]
 refine⟨λy=>?_,λbO=>?_⟩
 ·simp only[aF]at y
  rw[ao y]
  exact bg (J.aB _) _ _ rfl
 simp only[ak]at bO
 rw[ae bO]
 refine⟨λy=>?_,λbN=>?_⟩
 ·simp only[aF]at y
  rw[ao y]
  have h2:=C.kY.2.1 V
  have B:=aG V
  obtain⟨aj,bs⟩:=hM.xC y
  obtain⟨ab,ba⟩:=bZ aj
  have aU:=ax ab
  have bp:=z.cO.heap.len
  have bm:=aj.1
  have aH:ix (E f.u (E w.args 0))=(E f.u (E w.args 0) -1000).toNat:=rfl
  have e5:cW (E f.u (E w.args 0) -1000)=E f.u (E w.args 0) -1000:=aQ V V
  obtain⟨f0,_,k1,_⟩:=z.cO.heap.cp ab
  unfold lG at aw
  rw[ae V,ae V,ae V,ae V,ae V,ae V,ae V,ae V,ae V,ae V,ao y]at aw
  have bQ:qU (cq A.aT w.bN) (aJ a.heap (E f.u (E w.args 0))).jQ<(cq A.aT w.bN).length:=mh ⟨_,bs,D⟩
  have bW:=hj.len
  have bR:=aw.2.2.1
  refine⟨j,z.cO.box.cp 8,r,am z,V,V,_,ga z.cO.bY V,B.1,V,_,gr z B.1 B.2,?_⟩
  rw[e5,<-aH]
  refine⟨V,V,_,k1,d,z.cO.box.cp 0,(sW (a_.ext z.cO.bY).aT C.ok.fe.mw.types w.bN).mono ?_⟩
  rintro _ Z ⟨cs,rfl,bP,an⟩
  obtain⟨X,F⟩:=z.ext an
  have B5:=P.to F
  have R:=F.dF P
  refine⟨R,cs,rfl,Y R 5,(rV bP _).mono ?_⟩
  rintro _ G ⟨ri,rfl,aS,bf⟩
  obtain⟨K,N⟩:=X.ext aS
  have aZ:=N.dF B5
  have bk:ri=qU (cq A.aT w.bN) (aJ a.heap (E f.u (E w.args 0))).jQ:=by
   rcases bf with⟨_,aT⟩|⟨_,he⟩
   ·exact absurd bs aT
   ·exact he
  subst bk
  exact⟨aZ,_,rfl,Y aZ 5,V,V,_,(hj.ext K.cO.bY).pu V V,bg (an.trans aS) _ _ rfl⟩
 simp only[ak]at bN
 rw[ae bN]
 have bR:0<=a.bq/\a.bq<=100000:=by
  have cb:=C.ok.bq;have cf:=C.ok.bA;omega
 have aZ:=C.ok.fe
 refine⟨λy=>?_,λe9=>?_⟩
 ·simp only[bT,aF]at y
  rw[ao y]
  unfold lG at aw
  rw[ae V,ae V,ae V,ae V,ao y]at aw
  obtain⟨aA,bf,aS,bQ⟩:=aw
  have cn:=(aZ.dt aA (ar aS)).u
  have h3:=(aZ.mw.dt aA (ar aS)).1
  have cp:(cv f w.args).length=w.args.length:=by simp[cv]
  refine b7 λws Z iw an bk=>?_
  obtain⟨X,F⟩:=z.ext an
  have B5:=P.to F
  have R:=F.dF P
  refine⟨R,ws,rfl,Y R 0,Y R 1,Y R 2,Y R 3,Y R 4,Y R 5,Y R 2,(E8 X a_ bf aS V iw bk V w aq aV V bR).mono ?_⟩
  rintro _ G ⟨bE,bP,bj,aT,L6,N⟩
  exact⟨N.dF B5,bE,bP,bj,aT,L6,(ac.trans F).trans N⟩
 simp only[bz,ak]at e9
 rw[ae V]
 refine⟨λy=>?_,λbE=>?_⟩
 ·simp only[aF]at y
  rw[ao y]
  have h2:=C.kY.2.2.1 V
  have B:=aG V
  have bk:0<=E w.args 1/\E w.args 1<f.u.length:=C.arg _ (eW V V)
  obtain⟨aj,co,cT,ch,ce,cE⟩:=hM.apply y
  obtain⟨ab,ba⟩:=bZ aj
  have bQ:=C.ok.heap.cell _ (ar ab)
  have cG:=bQ.fl
  have bs:=(bQ.qQ ba).2
  have aU:=ax ab
  have bp:=z.cO.heap.len
  have bm:=aj.1
  have aH:ix (E f.u (E w.args 0))=(E f.u (E w.args 0) -1000).toNat:=rfl
  have e5:cW (E f.u (E w.args 0) -1000)=E f.u (E w.args 0) -1000:=aQ V V
  obtain⟨f0,k0,k1,k2,kf,kr⟩:=z.cO.heap.cp ab
  refine⟨r,am z,V,V,_,ga z.cO.bY V,B.1,V,_,gr z B.1 B.2,j,z.cO.box.cp 8,?_⟩
  rw[e5,<-aH]
  generalize hw:E f.u (E w.args 0)=H at*
  have gv:∀{g m bx aW j c lo aB u h v own' pc'},ST t g m q bu bx aW j c lo aB b {f with aR:=own',pc:=pc'} r u h v->af m r.F (r.off+Int.toNat (E w.args 1)*1)=some (vi (E f.u (E w.args 1))):=λah=>gr ah bk.1 bk.2
  generalize hv:E f.u (E w.args 1)=aa at*
  obtain⟨aA,hq⟩:=ag (l:=A.cA) (k:=((aJ a.heap H).jQ -bI A).toNat) V
  have ck:dx A ((aJ a.heap H).jQ -bI A)=aA:=by simp[dx,hq]
  rw[ck]at ch ce
  have cn:=(aZ.dt aA (ar hq)).u
  have h3:=(aZ.mw.dt aA (ar hq)).1
  refine⟨V,V,_,k0,_,k1,f0,k2,?_⟩
  intro Z G
  have bj:J L G:=((J.aB L).aK _).ai (ad _) _ _
  have s6:G.size=L.size+1:=by simp[G,Z,av]
  obtain⟨K,N⟩:=z.ext bj
  clear_value G
  have W:xZ g G [L.size,m.size]:=λS hb=>by
   simp at hb;rcases hb with rfl|rfl
   ·exact⟨V,z.cO.new _ (ad _)⟩
   ·exact P.to N _ D
  have bf:∀{M},J G M->af M aq.F (aq.off+Int.toNat (1:Int)*1)=some (vi (E w.args 1)):=λhx=>(ha.ext (K.cO.bY.trans hx)).pu V V
  have ew:cW ((aJ a.heap H).jQ -bI A)=(aJ a.heap H).jQ -bI A:=aQ V V
  have tail:∀{M:I}{es:O},J G M->gG G M aE 1 es (((aJ a.heap H).aL++[aa]).map Ce.i)->
   aO cw 108 [vp q 0,vi H,vb false] M λcz U=>eE [L.size,m.size] M U/\∃cy:Bool,cz=vb cy/\∃b6:Int,af U q (0+2)=some (vi b6)/\
    aO cw 107 [vp q 0,vi (cW ((aJ a.heap H).jQ -b6)),O.v es,xv w aq aV] U λ_ b4=>eE [L.size,m.size] U b4/\Bv t g m q d p (bI A) {a with bq:=a.bq+1,heap:=apart a.heap H,az:=b++[{f with aR:=aR,pc:=f.pc+1},br A ((aJ a.heap H).jQ -bI A) w.dst ((aJ a.heap H).aL++[aa])]} b4:=λ{M}{es} hx oe=>by
   obtain⟨SM,tM⟩:=K.ext hx
   have BM:=W.to tM
   have ie:ap M es ((aJ a.heap H).aL++[aa]):=ap.fV oe bJ
   have bY:es.F<M.size:=iB ie D
   have bW:g es.F=0:=by
    rcases oe.F with y|y
    ·subst y;have:=ie.len;simp at this
    ·exact K.cO.new _ y
   refine(CM SM aj false C.ok.heap V).mono ?_
   rintro _ m8 ⟨S,rfl,_,cV,cP,S8,t8⟩
   have B8:=BM.to t8
   have hK:rE a.heap H false=apart a.heap H:=by rw[rE,ae (λR=>by simp at R)]
   rw[hK]at S8
   have cs:ap m8 es ((aJ a.heap H).aL++[aa]):=gL ie λ_=>t8.dW _ bY (by rw[bW];decide)
   refine⟨t8.dF BM,S,rfl,bI A,S8.cO.box.cp 2,?_⟩
   rw[ew]
   refine(E8 (s:={a with heap:=apart a.heap H}) S8 a_ co hq V cs (λ_=>by rw[t8.iW _ bY];exact bW) bJ w aq aV V bR).mono ?_
   rintro _ m9 ⟨cA,cx,cg,b_,L9,t9⟩
   refine⟨t9.dF B8,cA,cx,cg,b_,?_,(((ac.trans N).trans tM).trans t8).trans t9⟩
   rw[ae V]at L9
   exact L9
  refine⟨r,am K,V,V,_,bf (J.aB _),bk.1,V,aa,gv K,?_,?_⟩
  ·refine(eF (kf.ext bj) V).mono ?_
   rintro _ m7 ⟨cl,rfl,oc,R⟩
   obtain⟨S7,t7⟩:=K.ext R
   have B7:=W.to t7
   refine⟨t7.dF W,cl,rfl,R.cV (gv K),R.cV (bf (J.aB _)),aN (R.same m.size (W _ D).1) 4,R.cV (am K),?_⟩
   intro m8
   have X:J m7 m8:=(J.aB m7).aK _
   refine⟨aN (X.same L.size (B7 _ D).1) 2,nK oc R V λes m9 o9 aS=>⟨?_,tail aS o9⟩⟩
   intro S hb
   have aT:=(W S hb).1
   rw[aS.same S aT,X.same S (by have:=R.size;omega),R.same S aT]
  ·intro m7
   have R:J G m7:=(J.aB G).aK _
   have s7:m7.size=G.size+1:=by simp[m7]
   have jg:fN m7 G.size 0 [.i aa]:=(cF.push G _ _).iP
   have ca:cF m7 G.size aE [.i aa]:=cF.push G _ _
   clear_value m7
   obtain⟨S7,t7⟩:=K.ext R
   have B7:=W.to t7
   refine⟨aN (R.same L.size (W _ D).1) 2,(eF (kf.ext (bj.trans R)) V).mono ?_⟩
   rintro _ m8 ⟨cl,rfl,oc,X⟩
   obtain⟨S8,t8⟩:=S7.ext X
   have cD:cl.len=(aJ a.heap H).aL.length:=by have:=oc.len;simp at this;omega
   refine⟨t8.dF B7,cl,rfl,X.cV (gv S7),X.cV (bf R),aN (X.same m.size (B7 _ D).1) 4,X.cV (am S7),?_⟩
   have bP:=R.trans X
   refine gG.append (c:=[.i 0]) (x:=.mk G.size 0 1 1) (i:=[.i aa]) (oc.bY V) bP rfl (ca.ext X).iP (by simp only[O.iE];omega) λes m9 o9 aS _ _ _ _=>⟨?_,tail aS (by simpa using o9)⟩
   intro S hb
   have aT:=(W S hb).1
   rw[aS.same S aT,bP.same S aT]
 simp only[ak]at bE
 rw[ae bE]
 refine⟨λy=>?_,λN=>?_⟩
 ·simp only[aF]at y
  have h2:=C.kY.2.1 V
  have B:=aG V
  refine⟨r,am z,V,V,_,ga z.cO.bY V,B.1,V,_,gr z B.1 B.2,(GU z V (E f.u (E w.args 0)) (λaP hg=>?_)).mono ?_⟩
  ·have al:b≠[]:=λy=>by rw[y]at hg;simp at hg
   have G:b=b.dropLast++[aP]:=by
    rw[eT al]at hg;simp at hg;rw[<-hg];exact(dX al).symm
   have R:b.length=b.dropLast.length+1:=by
    have:=ry List.length G;simpa using this
   obtain⟨W,X,q3⟩:=C.ok.chain b.dropLast.length aP f (by rw[C.fr,G];simp) (by rw[C.fr,<-R];simp)
   have K:=C.ok.az aP (by rw[C.fr,G];simp)
   have:=K.lr
   have:=K.lo
   exact⟨W,by show f.dst<_;omega,by show f.dst<_;omega⟩
  rintro _ Z ⟨aK,aY,aI,aM,L5,F⟩
  exact⟨F.dF P,aK,aY,aI,aM,L5,ac.trans F⟩
 simp only[ak]at N
 have:=C.YN
 omega
end
end
section
variable{a:cH}{c:I}{e b:Nat}
section
variable{k:I}{j:Nat->Nat}{m:I}{g:Nat}{d p aW h f:O}{s:St}
def Fj(L:tJ k j m g bu (IB d p (bI a) s aW h f) aW h f s.aW s.heap s.az)(z:eu k d p a)(u:dh a s)(ax:∀t∈s.az,∀w∈t.u,w<=9223372036854775807)(aA:s.heap.length<=900000000)(aF:s.aW.length<=900000000):
 aO cw 31 [vp g 0] m λ_ M=>Bv k j m g d p (bI a) (mB a s) M:=by
 apply vE (g,0)
 simp -zeta only[aD,aC]
 refine⟨s.bU,L.box.cp 3,λy=>?_,λy=>?_⟩
 ·simp at y
  rw[lT y]
  exact⟨j,aW,h,f,L,dv.aB _ L.new⟩
 have H:s.bU=3:=by simpa using y
 obtain⟨l,b,r⟩:=u.split H
 have aB:s.az.getLast?=some b:=by rw[r];simp
 have aw:s.az.dropLast=l:=by rw[r];simp
 have C:yZ a s l b (dk a b):=⟨u,H,r,rfl,ax⟩
 have aJ:mB a s=(open Classical in if lK (dk a b).op/\s.bq=s.bA then{s with bU:=1}else if jD a s b (dk a b) (bC b.u b.aR (bS a (dk a b)))then eC a s l b (dk a b) (bC b.u b.aR (bS a (dk a b)))else{s with bU:=2}):=by
  unfold mB;rw[ae (by simpa using H),aB,aw]
 rw[aJ]
 generalize dk a b=x at*
 have R:tJ k j m g bu (IB d p (bI a) s aW h f) aW h f s.aW s.heap (l++[b]):=by rw[<-r];exact L
 obtain⟨al,ak,aa,am,T⟩:=R.az.fP
 have S:ST k j m g bu (IB d p (bI a) s aW h f) aW h f s.aW s.heap l b al ak aa am:=⟨R,T⟩
 have aP:=T.xH
 have ag:=u.depth
 have aN:=u.bq
 have aT:=u.bA
 rw[r]at ag
 have aR:l.length<=1000:=by simp at ag;omega
 have e1:cW ((f.len:Int) -1)=(l.length:Int):=by rw[aQ V V];omega
 have e2:Int.toNat (l.length:Int)=l.length:=V
 have Z:af m g 9=some (O.v f):=S.cO.box.cp 9
 obtain⟨X,Y,_,_,_,_⟩:=T.iP
 obtain⟨aZ,hq,aH,hP,ar,hI⟩:=C.I
 obtain⟨pa,pl,pc,aU,aX,aj,k0,k1,k2,k3,k4⟩:=z.cA.E hq
 obtain⟨G,K,ha,hj,i0,i1,i2,i3,i4,i5⟩:=aj.E ar
 have aY:=z.cA.len
 have aV:=aj.len
 have hF:=C.F
 have aG:=hF.eP
 have ah:=hF.pc
 rw[aH]at ah
 have n:=S.cO.bY
 refine⟨f,Z,f,Z,?_⟩
 rw[e1,e2]
 refine⟨V,V,p,S.cO.box.cp 1,_,X,aG.1,V,pc,n.af k4,_,Y,ah.1,V,_,n.af i0,_,n.af i1,_,n.af i2,_,n.af i3,G,n.af i4,K,n.af i5,?_⟩
 intro m1
 have o:J m m1:=(J.aB m).aK _
 refine⟨o.cV (n.af i0),o.cV (n.af i1),o.cV (n.af i2),o.cV (n.af i3),o.cV (n.af i4),o.cV (n.af i5),o.cV Y,o.cV (n.af k4),o.cV X,o.cV (S.cO.box.cp 1),?_⟩
 intro c
 have aK:J m c:=o.ai (ad _) _ _
 have s2:c.size=m.size+1:=by simp[c,m1,av]
 obtain⟨e,P⟩:=S.ext aK
 have B:xZ j c [m.size]:=λU n=>by simp at n;subst n;exact⟨V,S.cO.new _ (ad _)⟩
 clear_value c
 have aS:=C.LP
 have aI:({s with az:=l++[b]}:St)=s:=by rw[<-r]
 have ay:lF c f (l++[b]):=e.cO.az.Fv bJ (λt w=>by
  have q:=u.az t (by rw[r];exact w);obtain⟨Q,_,A,v,_⟩:=q.Im u.fe;have E:=q.lr;have F:=q.lo;have N:=q.lh;rw[A]at E F N;have:=v.u;omega)
 have ap:RV c g 3 d p aW h f a s:=by
  have:RV c g 3 d p aW h f a {s with az:=l++[b]}:=⟨z.ext e.cO.bY,e.cO.box.cp 0,e.cO.box.cp 1,e.cO.box.cp 3,e.cO.box.cp 4,e.cO.box.cp 5,e.cO.box.cp 6,e.cO.box.cp 7,e.cO.box.cp 8,e.cO.box.cp 9,e.cO.aW.mZ V,e.cO.heap.cells V,ay⟩;rw[aI]at this;exact this
 have F2:FP c f.F (f.off+l.length*6) b al ak aa:=e.fp ⟨V,V,V⟩
 have jW:¬(lK x.op/\s.bq=s.bA)->aO cw 52 [vp g 0,vp f.F (f.off+l.length*6),xv x G K] c λaL v=>
  eE [m.size] c v/\∃N:Bool,aL=vb N/\
  ((!N)=true->fH v g (0+3) 1/\let q:I:=ai v g (0+3) [.i (2:Int)]
   eE [m.size] v q/\Bv k j m g d p (bI a) (open Classical in if lK x.op/\s.bq=s.bA then{s with bU:=1}else if jD a s b x (bC b.u b.aR (bS a x))then eC a s l b x (bC b.u b.aR (bS a x))else{s with bU:=2}) q)/\
  ((!N)=false->aO cw 53 [vp g 0,vp f.F (f.off+l.length*6),xv x G K] v λt q=>
   eE [m.size] v q/\Bv k j m g d p (bI a) (open Classical in if lK x.op/\s.bq=s.bA then{s with bU:=1}else if jD a s b x (bC b.u b.aR (bS a x))then eC a s l b x (bC b.u b.aR (bS a x))else{s with bU:=2}) q):=λaE=>by
  refine(OX ap (e.cO.box.cp 2) C F2 (ha.ext e.cO.bY) V).mono ?_
  rintro _ m3 ⟨U,rfl,ab,an⟩
  obtain⟨E,A⟩:=e.ext an
  have Q:=B.to A
  rw[ae aE]
  refine⟨A.dF B,U,rfl,λq=>?_,λq=>?_⟩
  ·rw[ae (nb ab q)]
   refine⟨E.cO.mg (i:=3) D,?_⟩
   intro m4
   obtain⟨F,t⟩:=E.je 3 [.i 2]
   refine⟨t.dF Q,j,aW,h,f,?_,(P.trans A).trans t⟩
   have:=F.cO
   rw[<-r]at this
   exact this
  ·have w:=yb ab q
   rw[ao w]
   refine(Qe C rfl w E z ha hj aA aF).mono ?_
   rintro _ m4 ⟨aM,au,aq,ac,W,t⟩
   exact⟨t.dF Q,aM,au,aq,ac,W,(P.trans A).trans t⟩
 refine⟨λW M=>M=c/\(W=true<->lK x.op),⟨λq=>⟨rfl,by simp at q;simp[lK,q]⟩,λq=>⟨λw=>⟨rfl,by simp at w;simp[lK,w]⟩,λw=>⟨rfl,by simp at q w;simp[lK,q,w]⟩⟩⟩,?_⟩
 rintro W m3 ⟨rfl,ac⟩
 refine⟨λau=>⟨s.bq,e.cO.box.cp 5,s.bA,e.cO.box.cp 6,λw=>?_,λw=>?_⟩,λaq=>?_⟩
 ·simp at w
  refine⟨e.cO.mg (i:=3) D,?_⟩
  intro m4
  obtain⟨F,t⟩:=e.je 3 [.i 1]
  refine⟨t.dF B,j,aW,h,f,?_,P.trans t⟩
  rw[ao ⟨ac.1 au,w⟩]
  have:=F.cO
  rw[<-r]at this
  exact this
 ·simp at w
  exact jW λt=>w t.2
 ·exact jW λt=>by have:=ac.2 t.1;rw[aq]at this;simp at this
end
def lJ{m:I}{w C:O}(H:eu m w C a)(z:gP a)(bA:Int):
 aO cw 30 [.agg #[O.v w,O.v C],vi bA] m λM n=>∃x,M=.agg #[vi 3,vi 0,vi 0,vi bA,O.v .nil,O.v .nil,O.v x]/\J m n/\∃e f g d b,x=.mk d 0 1 1/\
  o8 m n e f g b (br a 0 0 []).u (br a 0 0 []).aR (br a 0 0 []).bo/\(d≠e/\d≠f/\d≠g/\m.size<=d/\d<n.size)/\cF n d dB [.i 0,.i 0,.i 0,.s (.mk e 0 b b),.s (.mk f 0 b b),.s (.mk g 0 b b)]:=by
 apply yu
 simp -zeta only[aD,aC]
 intro o c
 have A:J m c:=((J.aB m).aK _).aK _
 have L:o.size=m.size+1:=by simp[o]
 have T:c.size=m.size+2:=by simp[c,L]
 clear_value c
 have P:=z.mw.len
 obtain⟨q,t⟩:=ag (l:=a.cA) (k:=0) V
 have R:=(z.dt q (ar t)).u
 have u:dx a 0=q:=by simp[dx,t]
 refine(vG (H.ext A) (cE 0) t V 0).mono ?_
 rintro _ h ⟨e,f,g,rfl,N⟩
 have s:=N.ext
 have Q:=N.lo
 have S:=s.size
 refine⟨s.dm bJ,_,_,_,_,_,_,rfl,?_⟩
 intro i v
 have y:J h i:=(J.aB h).aK _
 have U:i.size=h.size+1:=by simp[i]
 have W:v.size=i.size:=av _ _ _ _
 have K:cF i h.size dB [.i 0,.i 0,.i 0,.s (.mk e 0 q.u.toNat q.u.toNat),.s (.mk f 0 q.u.toNat q.u.toNat),.s (.mk g 0 q.u.toNat q.u.toNat)]:=cF.push h _ _
 have r:=N.OO y
 have B:J m v:=(A.trans (s.trans y)).ai (show m.size<=o.size by omega) _ _
 have p:∀j,j≠o.size->v[j]? =i[j]? :=λj G=>bd _ _ _ _ G
 have F:(br a 0 0 []).u=cZ q.u.toNat:=by simp[br,u]
 have E:(br a 0 0 []).aR=cZ q.u.toNat:=by simp[br,u,dD]
 have D:(br a 0 0 []).bo=cZ q.u.toNat:=by simp[br,u]
 refine⟨_,rfl,B,e,f,g,h.size,q.u.toNat,rfl,?_,V,K.congr (p _ V)⟩
 rw[F,E,D]
 exact⟨B,V,r.kr.congr (p _ V),r.ko.congr (p _ V),r.kh.congr (p _ V),N.len⟩
def MS{m:I}{Lr:List Ce}{p:O}{bA:Int}{i j k d g:Nat}(E:p=.mk d 0 1 1)
 (N:o8 m c i j k b (br a 0 0 []).u (br a 0 0 []).aR (br a 0 0 []).bo)(H:d≠i/\d≠j/\d≠k/\m.size<=d/\d<c.size)(G:cF c d dB [.i 0,.i 0,.i 0,.s (.mk i 0 b b),.s (.mk j 0 b b),.s (.mk k 0 b b)])
 (L:m.size<=g/\g≠i/\g≠j/\g≠k/\g≠d)(w:cF c g e (Lr++[.i 3,.i 0,.i 0,.i bA,.s .nil,.s .nil,.s p])):
 tJ m (pT (pT (mF (λ_=>0) i j k 0) d 4) g 1) c g e (Lr++[.i 3,.i 0,.i 0,.i bA,.s .nil,.s .nil,.s p]) .nil .nil p [] [] [br a 0 0 []]:=by
 have K:=N.lo
 have F:J m c:=N.ext
 have M:=w.lt
 have P:=N.ext.size
 have u:∀l,l≠g->l≠d->(pT (pT (mF (λ_=>0) i j k 0) d 4) g 1) l=mF (λ_=>0) i j k 0 l:=λl q t=>by rw[eM q,eM t]
 obtain⟨z,A,B⟩:=N.pS (a:=λ_=>0) (v:=0)
 have conv:∀{v:Nat}{s:O}{x:List Ce},gY (mF (λ_=>0) i j k 0) c aE 1 v s x->s.F≠g->s.F≠d->gY (pT (pT (mF (λ_=>0) i j k 0) d 4) g 1) c aE 1 v s x:=λy q t=>y.dW (λ_=>rfl) (λ_=>u _ q t)
 refine⟨F,λl C=>?_,λl C=>?_,w,gJ _ _ _,⟨D,D,Or.inl rfl⟩,⟨[],⟨D,D,Or.inl rfl⟩,gD.nil _ _,WA.nil⟩,?_⟩
 ·rw[u l V V];unfold mF;rw[eM V,eM V,eM V]
 ·rw[u l V V];unfold mF;rw[eM V,eM V,eM V]
 ·refine sL.ug (a:=[]) (f:=br a 0 0 []) (r:=.mk i 0 b b) (j:=.mk j 0 b b) (h:=.mk k 0 b b) (k:=[]) ⟨?_,rfl,D,D,conv z (by simp only[O.jm];omega) (by simp only[O.jm];omega),conv A (by simp only[O.jm];omega) (by simp only[O.jm];omega),conv B (by simp only[O.jm];omega) (by simp only[O.jm];omega)⟩
  rw[E]
  refine⟨rfl,ad _,Or.inr ⟨d,1,[],rfl,?_,?_,rfl⟩⟩
  ·rw[eM V,gJ]
  ·rw[dI];exact G
def Y9(m a:I)(s:O)(l:List Int):Prop:=l.length<=1000000000/\ap a s l/\(l≠[]->gG m a aE 1 s (l.map Ce.i))
def Q9(m a:I)(x:YC)(v:Value):Prop:=∃aW,v=.tuple #[.agg #[vi x.bU,vi x.value,vi x.bq,O.v aW],vb x.ok]/\Y9 m a aW x.aW/\J m a
def gY.Yx{f:Nat->Nat}{d m:I}{g:Nat}{s:O}{l:List Ce}(h:gY f m e g b s l)(j:∀a,a<d.size->f a=0)(n:b≠0)(o:l≠[]):gG d m e g s l:=by
 rcases h.E with c|⟨a,i,tail,c,h2,h3,h4⟩
 ·exact absurd (h.uf c).1 o
 ·refine⟨h.len,Or.inr ⟨a,i,tail,c,vg λk=>n (by rw[<-h2];exact j a k),h3,h4,?_⟩⟩;have:=h.le;rw[c]at this;simpa using this
def H9(a:cH):∀(c b:Nat)(s:St),aA a (c+b) s=aA a b (aA a c s)
 |0,b,s=>by simp[aA]
 |c+1,b,s=>by rw[Nat.succ_add];simp only[aA];exact H9 a c b _
def Ol(b i:Nat)(j:List Nat)(m:I)(R:Value->I->Prop):Prop:=
 ∃(c:I->Prop)(μ0:I->Nat),c m/\(∀(a:I),c a->
 ∃e:Int,af a b 3=some (vi e)/\
 ((e==(3:Int))=true->
 aO cw 31 [vp b 0] a λf d=>
 eE j a d/\
 c d/\μ0 d<μ0 a)/\
 ((e==(3:Int))=false->
 ∃d:Int,af a b 3=some (vi d)/\
 ∃f:Int,af a b 4=some (vi f)/\
 ∃g:Int,af a b 5=some (vi g)/\
 ∃h:O,af a b 7=some (O.v h)/\
 let k:I:=ai a i 0 [.i d,.i f,.i g,.s h]
 R (.tuple #[.agg #[vi d,vi f,vi g,O.v h],vb true]) k))
def ON{s M:I}{m v n:O}{bA:Int}{w:Nat->Nat}{u i:Nat}{l:List Nat}(r:gP a)(q:0<=bA/\bA<=40)(G:eu M m v a)(C:J s M)(z:s.size<=i/\i<M.size)(A:∀g∈l,g<M.size)
 (L:tJ M w c u bu (IB m v (bI a) (fj a bA) .nil .nil n) .nil .nil n [] [] [br a 0 0 []]):
 Ol u i l c (λf d=>Q9 s d (fB a bA) f):=by
 have B:=nP r q
 refine Uw (λ(b:Nat) d=>b<=100000/\Bv M w c u m v (bI a) (aA a b (fj a bA)) d) (λb=>100000 -b) 0 ⟨eJ _,w,.nil,.nil,n,L,dv.aB _ L.new⟩ ?_
 rintro b D T μ ⟨W,Q,h,Y,U,d,S⟩ N
 have H:=rp b B
 have j:=AY b B (wy a bA) V
 have E:xZ Q D l:=λg y=>⟨d.bY.lt (A g y),d.jK g (A g y)⟩
 refine⟨_,d.box.cp 3,λf=>?_,λf=>?_⟩
 ·simp at f
  have X:b<100000:=by
   rcases be b 100000 with k|k
   ·exact k
   ·have o:b=100000:=V;have p:=(Br r q).2.2;rw[qy,<-o]at p;exact absurd f p
  refine(Fj d G H j.Dj (by have:=j.heap;omega) (by have:=j.aW;omega)).mono ?_
  rintro _ t ⟨R,P,K,F,x,p⟩
  refine⟨p.dF E,N (b+1) t ⟨V,R,P,K,F,?_,S.trans p⟩ (by show 100000 -(b+1)<100000 -b;omega)⟩
  rw[oF];exact x
 ·simp at f
  have K:gV a bA=aA a b (fj a bA):=by
   have o:100000=b+(100000 -b):=V;rw[qy,o,H9,ms _ f]
  refine⟨_,d.box.cp 3,_,d.box.cp 4,_,d.box.cp 5,h,d.box.cp 7,?_⟩
  intro t
  have P:=j.aW
  have F:fB a bA=⟨(aA a b (fj a bA)).bU,(aA a b (fj a bA)).value,(aA a b (fj a bA)).bq,(aA a b (fj a bA)).aW,true⟩:=by
   rw[fB,ao ⟨r,q⟩,K]
  rw[F]
  have k:(aA a b (fj a bA)).aW≠[]->t[h.F]? =D[h.F]? :=λk=>bd _ _ _ _ λe=>by
   have p:h.cap≠0:=λp=>by have:=(d.aW.uf p).1;simp at this;exact k this
   have f:=(d.aW.F p).2;rw[e,d.jK i z.2]at f;omega
  refine⟨h,rfl,⟨by show(aA a b (fj a bA)).aW.length<=_;omega,gL (d.aW.mZ V) k,λx=>?_⟩,(C.trans d.bY).ai z.1 _ _⟩
  exact(((d.aW.Yx d.jK bh (by simpa using x)).congr (k x)).bY C.size)
def TE.toI{m b:I}{x:YC}{v:Value}(h:TE m b x v)(e:x.aW.length<=1000000000):Q9 m b x v:=by
 obtain⟨aW,c,a,d⟩:=h;exact⟨aW,c,⟨e,ap.fV a V,λ_=>a⟩,d⟩
def OM(a:cH)(bA:Int):(fB a bA).aW.length<=1000000000:=by
 unfold fB;split
 ·rename_i h;have:=(Br h.1 h.2).2.1.aW;simp only[];omega
 ·simp
def qt{m:I}{d p:O}(b:eu m d p a)(bA:Int):aO cw 10 [.agg #[O.v d,O.v p],vi bA] m λv c=>Q9 m c (fB a bA) v:=
 (IV b bA).mono λ_ _ h=>h.toI (OM a bA)
def nU{d:I}{f p:O}(ah:eu d f p a)(bA:Int):aO cw 9 [.agg #[O.v f,O.v p],vi bA] d λag m'=>Q9 d m' (fB a bA) ag:=by
 apply Dl;simp -zeta only[aD,aC];intro q c;have Z:J d c:=((J.aB d).aK _).aK _;have s1:q.size=d.size+1:=by simp[q]
 have s2:c.size=d.size+2:=by simp[c,s1]
 have kI:cF c d.size qP [.s f,.s p]:=(cF.push d _ _).ext (J.push q _);clear_value c;have R:∀n∈[q.size,d.size],n<c.size:=bJ;have no:∀{e:I},J c e->¬(gP a/\0<=bA/\bA<=40)->Q9 d (ai e q.size 0 [.i (0:Int),.i (0:Int),.i (0:Int),.s O.nil]) (fB a bA) (.tuple #[.agg #[vi (0:Int),vi (0:Int),vi (0:Int),O.v O.nil],vb false]):=λi au=>by
  rw[fB,ae au];exact⟨.nil,rfl,⟨D,⟨rfl,D,D,D⟩,λh=>absurd rfl h⟩,(Z.trans i).ai V _ _⟩
 refine(ou (ah.ext Z)).aI (J.aB _) R λn e k i _=>⟨n,rfl,λU=>no i (λg=>nb k U g.1),λU=>⟨λW=>no i (λg=>by simp at W;omega),λW=>⟨λX=>no i (λg=>by simp at X;omega),λX=>?_⟩⟩⟩;have H:=yb k U;have hm:0<=bA/\bA<=40:=by simp at W X;omega
 have ak:=Z.trans i;have s3:=i.size;have G:=ah.ext ak;have am:=kI.ext i;have ht:=H.mw.types;have cc:∀{M:I},J e M->EH cw 29 [O.v f] M (vi (bI a)):=λF=>mX (G.ext F).aT ht.len (λg h=>JC ht g h);have s:∀{M l:I},J e M->J M l->(af l d.size 0=af M d.size 0/\af l d.size 1=af M d.size 1):=λC E=>⟨E.cV ((am.ext C).cp 0),E.cV ((am.ext C).cp 1)⟩;have sm:∀{M l:I},J e M->J M l->eE [q.size,d.size] M l:=λC E=>E.dm λn k=>C.lt (i.lt (R n k));have ac:∀{M l:I}{ab:Nat},J e M->J M l->ab<M.size->eE [ab,q.size,d.size] M l:=λC E ar=>E.dm λn k=>by
  rcases List.mem_cons.1 k with rfl|k
  ·exact ar
  ·exact C.lt (i.lt (R n k))
 have aa:∀{M t:I}{g:O}{u v w h b B:Nat},J e M->g=.mk h 0 1 1->o8 M t u v w b (br a 0 0 []).u (br a 0 0 []).aR (br a 0 0 []).bo->(h≠u/\h≠v/\h≠w/\M.size<=h/\h<t.size)->cF t h dB [.i 0,.i 0,.i 0,.s (.mk u 0 b b),.s (.mk v 0 b b),.s (.mk w 0 b b)]->
  (M.size<=B/\B≠u/\B≠v/\B≠w/\B≠h)->cF t B bu ([.s f,.s p,.i (bI a)]++[.i 3,.i 0,.i 0,.i bA,.s .nil,.s .nil,.s g])->Ol B q.size [q.size,d.size] t (λag m'=>Q9 d m' (fB a bA) ag):=λF x N Q y aq z=>by
  have:=F.size
  exact ON H hm (G.ext F) (ak.trans F) V (λn k=>F.lt (i.lt (R n k))) (MS x N Q y aq z)
 refine⟨(cc (J.aB _)).mono ?_,?_⟩
 ·rintro _ A ⟨rfl,j⟩;have S:=s (J.aB _) j;refine⟨sm (J.aB _) j,_,rfl,S.1,S.2,S.1,S.2,?_,?_⟩
  ·refine(lJ (G.ext j) H bA).mono ?_;rintro _ L ⟨g,rfl,P,u,v,w,h,b,x,N,Q,y⟩;have an:=j.trans P;have al:=s j P;refine⟨sm j P,_,_,_,_,_,_,_,rfl,al.1,al.2,?_⟩;intro m8;have Y:J L m8:=(J.aB L).aK _;have K:=s an Y;refine⟨K.1,K.2,K.1,K.1,K.2,?_⟩;intro t;have T:J L t:=Y.ai (ad _) _ _;have z:cF t L.size bu ([.s f,.s p,.i (bI a)]++[.i 3,.i 0,.i 0,.i bA,.s .nil,.s .nil,.s g]):=cF.ai (m:=m8) (o:=0) (r:=[.s f,.s p,.i (bI a),.i 3,.i 0,.i 0,.i bA,.s .nil,.s .nil,.s g]) (cF.push L _ _);have aj:=N.lo;have s9:=T.size;have s7:=P.size;exact aa j x (N.OO T) V (y.ext T) V z
  ·intro L;have Y:J A L:=(J.aB A).aK _;have aw:L.size=A.size+1:=by simp[L]
   have T:=j.trans Y;have K:=s j Y;have kz:cF L A.size bu [.s .nil,.s .nil,.i 0,.i 0,.i 0,.i 0,.i 0,.s .nil,.s .nil,.s .nil]:=cF.push A _ _;refine⟨K.1,K.2,K.1,K.1,K.2,?_⟩;clear_value L;refine(lJ (G.ext T) H bA).mono ?_;rintro _ an ⟨g,rfl,P,u,v,w,h,b,x,N,Q,y⟩;have al:=s T P;refine⟨ac T P V,_,_,_,_,_,_,_,rfl,al.1,al.2,?_⟩;intro ao;have aj:=N.lo;have ap:=N.box Y (nb:=A.size) (ad _) V 0 [.s f,.s p,.i (bI a),.i 3,.i 0,.i 0,.i bA,.s .nil,.s .nil,.s g];have z:cF ao A.size bu ([.s f,.s p,.i (bI a)]++[.i 3,.i 0,.i 0,.i bA,.s .nil,.s .nil,.s g]):=cF.ai (m:=an) (o:=0) (r:=[.s f,.s p,.i (bI a),.i 3,.i 0,.i 0,.i bA,.s .nil,.s .nil,.s g]) (kz.ext P);have ax:ao.size=an.size:=av _ _ _ _;exact aa j x ap V (y.congr (bd _ _ _ _ V)) V z
 ·intro L;have A:J e L:=(J.aB e).aK _;have aw:L.size=e.size+1:=by simp[L]
  have K:=s (J.aB _) A;have kz:cF L e.size bu [.s .nil,.s .nil,.i 0,.i 0,.i 0,.i 0,.i 0,.s .nil,.s .nil,.s .nil]:=cF.push e _ _;refine⟨K.1,K.2,K.1,K.1,K.2,?_⟩;clear_value L;refine(cc A).mono ?_;rintro _ ap ⟨rfl,j⟩;have P:=A.trans j;have S:=s A j;have ax:=j.size;refine⟨ac A j V,_,rfl,S.1,S.2,S.1,S.2,?_⟩;refine(lJ (G.ext P) H bA).mono ?_;rintro _ al ⟨g,rfl,T,u,v,w,h,b,x,N,Q,y⟩;have Y:=s P T;refine⟨ac P T V,_,_,_,_,_,_,_,rfl,Y.1,Y.2,?_⟩;intro an;have aj:=N.lo;have ao:=N.box P (nb:=e.size) (ad _) V 0 [.s f,.s p,.i (bI a),.i 3,.i 0,.i 0,.i bA,.s .nil,.s .nil,.s g];have z:cF an e.size bu ([.s f,.s p,.i (bI a)]++[.i 3,.i 0,.i 0,.i bA,.s .nil,.s .nil,.s g]):=cF.ai (m:=al) (o:=0) (r:=[.s f,.s p,.i (bI a),.i 3,.i 0,.i 0,.i bA,.s .nil,.s .nil,.s g]) (kz.ext (j.trans T));have ay:an.size=al.size:=av _ _ _ _;exact aa (J.aB _) x ao V (y.congr (bd _ _ _ _ V)) V z
end
end Go.Proofs.YtgnjacfobdjeeaaGreat
section
namespace Go.Vc
def vx{m:I}{b o:Nat}{v:Value}(h:(af m b o).isSome=true):af (qY m b o v) b o=some v:=by
 unfold af at h⊢;simp only[qY,lz,PF];cases d:m[b]? with
 |none=>rw[d]at h;simp at h
 |some f=>
  rw[d]at h;cases f with
  |cells c g i=>
   simp only[]at h;have e:o<c.size:=by
    rcases be o c.size with a|a
    ·exact a
    ·rw[Ie a]at h;simp at h
   simp[e]
  |_=>simp at h
def Ka{m:I}{c o a b:Nat}{v:Value}(h:a≠c\/b≠o):af (qY m c o v) a b=af m a b:=by
 by_cases d:a=c
 ·subst d;have e:b≠o:=by rcases h with h|h;exact absurd rfl h;exact h
  unfold af;simp only[qY,lz,PF];cases d:m[a]? with
  |none=>rfl
  |some f=>
   cases f with
   |cells g i j=>simp[kd e]
   |_=>rfl
 ·exact aN (KH _ _ _ _ d) _
def P4(m:I)(c o:Nat)(v:Value)(a d:Nat):vw (qY m c o v) a d=vw m a d:=by
 by_cases b:a=c
 ·subst b;unfold vw;simp only[qY,lz,PF];cases b:m[a]? with
  |none=>rfl
  |some e=>
   cases e with
   |cells f g h=>rfl
   |_=>rfl
 ·unfold vw;rw[KH _ _ _ _ b]
structure Tu(m:I)(k:Int)(pos:List (Nat×Nat))(m':I):Prop where
 size:m.size<=m'.size
 F:∀b,b<m.size->(∀p∈pos,p.1≠b)->m'[b]? =m[b]?
 cell:∀b o,b<m.size->(b,o)∉pos->af m' b o=af m b o
 vw:∀b o,b<m.size->Vc.vw m' b o=Vc.vw m b o
 int:∀p∈pos,∃n,af m' p.1 p.2=some (vi n)
 val:pos.Nodup->∀(j:Nat)(p:Nat×Nat),pos[j]? =some p->af m' p.1 p.2=some (vi (k+j))
def Tu.nil{m c:I}(h:J m c)(k:Int):Tu m k [] c:=
 ⟨h.size,λb a _=>h.same b a,λb o a _=>aN (h.same b a) o,λb o a=>by unfold Vc.vw;rw[h.same b a],D,D⟩
def Tu.kK{m:I}{b o:Nat}(h:(af m b o).isSome=true)(k:Int):Tu m k [(b,o)] (ai m b o [.i k]):=by
 refine⟨yY (av _ _ _ _).symm,λc f d=>bd _ _ _ _ λe=>d (b,o) D e.symm,λc q f d=>?_,λc q f=>P4 _ _ _ _ _ _,λp a=>?_,λ_ j p a=>?_⟩
 ·refine Ka ?_;by_cases e:c=b
  ·right;intro g;subst e;subst g;simp at d
  ·exact Or.inl e
 ·simp at a;subst a;exact⟨k,vx h⟩
 ·cases j with
  |zero=>
   simp at a;subst a;have e:k+((0:Nat):Int)=k:=V;rw[e];exact vx h
  |succ j=>simp at a
def Tu.trans{m n q:I}{k:Int}{e l:List (Nat×Nat)}(h:Tu m k e n)(g:Tu n (k+e.length) l q):Tu m k (e++l) q:=by
 have x:=h.size;refine⟨cg h.size g.size,λc f b=>?_,λc o f b=>?_,λc o f=>?_,λp a=>?_,λv j p a=>?_⟩
 ·rw[g.F c V λp a=>b p (fC _ a),h.F c f λp a=>b p (bL _ a)]
 ·rw[g.cell c o V λa=>b (fC _ a),h.cell c o f λa=>b (bL _ a)]
 ·rw[g.vw c o V,h.vw c o f]
 ·by_cases i:p∈l
  ·exact g.int p i
  ·have d:p∈e:=by rcases List.mem_append.1 a with d|d;exact d;exact absurd d i
   obtain⟨r,b⟩:=h.int p d;exact⟨r,by rw[g.cell p.1 p.2 (nF b) i];exact b⟩
 ·obtain⟨i,s,t⟩:=List.nodup_append.1 v;by_cases w:j<e.length
  ·rw[aw w]at a;have d:p∈e:=iZ a;obtain⟨r,b⟩:=h.int p d;rw[g.cell p.1 p.2 (nF b) λu=>t p d p u rfl];exact h.val i j p a
  ·rw[aG V]at a;have:=g.val s _ p a;have d:k+(e.length:Int)+((j -e.length:Nat):Int)=k+j:=V;rw[d]at this;exact this
inductive Tv where
 |nil
 |int (r:Tv)
 |sl (e r:Tv)
def Tv.size:Tv->Nat
 | .nil=>0
 | .int r=>r.size+1
 | .sl _ r=>r.size+1
inductive RW where
 |iP (r:Tv)
 |Hk (e:Tv) (n:Nat)
inductive vr(m:I):RW->Nat->Nat->List (Nat×Nat)->Prop where
 |nil (b o:Nat):vr m (.iP .nil) b o []
 |int {b o:Nat} {r:Tv} {p:List (Nat×Nat)} {n:Int} (h:af m b o=some (vi n)) (hf:Vc.vw m b o=false) (hr:vr m (.iP r) b (o+1) p):vr m (.iP (.int r)) b o ((b,o)::p)
 |sl {b o:Nat} {e r:Tv} {p1 p2:List (Nat×Nat)} {s:O} (h:af m b o=some (O.v s)) (hl:s.len<=9223372036854775807) (he:vr m (.Hk e s.len) s.F s.off p1) (hr:vr m (.iP r) b (o+1) p2):vr m (.iP (.sl e r)) b o (p1++p2)
 |zero (e:Tv) (b o:Nat):vr m (.Hk e 0) b o []
 |succ {b o n:Nat} {e:Tv} {p1 p2:List (Nat×Nat)} (he:vr m (.iP e) b o p1) (hr:vr m (.Hk e n) b (o+e.size) p2):vr m (.Hk e (n+1)) b o (p1++p2)
def vr.mZ{m:I}{K:RW}{f o:Nat}{e:List (Nat×Nat)}(h:vr m K f o e):∀p∈e,∃n,af m p.1 p.2=some (vi n):=by
 induction h with
 |nil=>simp
 |int h c d b=>
  intro p a;rcases List.mem_cons.1 a with rfl|a
  ·exact⟨_,h⟩
  ·exact b p a
 |sl h i g d b c=>
  intro p a;rcases List.mem_append.1 a with a|a
  ·exact b p a
  ·exact c p a
 |zero=>simp
 |succ g d b c=>
  intro p a;rcases List.mem_append.1 a with a|a
  ·exact b p a
  ·exact c p a
def vr.lt{m:I}{K:RW}{b o:Nat}{a:List (Nat×Nat)}(h:vr m K b o a):∀p∈a,p.1<m.size:=λp d=>let⟨_,c⟩:=h.mZ p d;nF c
def Tl(n:Int)(s:O):vi n≠O.v s:=by cases s<;>simp[vi,O.v]
def vr.ZQ{m j:I}{u:Int}{q:List (Nat×Nat)}(g:Tu m u q j)(t:∀p∈q,∃n,af m p.1 p.2=some (vi n)){K:RW}{b o:Nat}{k:List (Nat×Nat)}(h:vr m K b o k):vr j K b o k:=by
 induction h with
 |nil=>exact .nil _ _
 | @int b o v p n h d i e=>
  have a:=nF h;by_cases c:(b,o)∈q
  ·obtain⟨r,f⟩:=g.int _ c;exact .int f (by rw[g.vw b o a];exact d) e
  ·exact .int (by rw[g.cell b o a c];exact h) (by rw[g.vw b o a];exact d) e
 | @sl b o w v x y l h r p i d e=>
  have a:=nF h;refine .sl (s:=l) ?_ r d e;rw[g.cell b o a λc=>?_]
  ·exact h
  ·obtain⟨n,f⟩:=t _ c;rw[h]at f;exact Tl n l (lV f).symm
 |zero=>exact .zero _ _ _
 |succ p i d e=>exact .succ d e
def vr.ext{m a:I}(d:J m a){K:RW}{b o:Nat}{c:List (Nat×Nat)}(h:vr m K b o c):vr a K b o c:=h.ZQ (Tu.nil d 0) D
end Go.Vc
namespace Go.Proofs.YtgnjacfobdjeeaaGreat
open Go.Vc
end Go.Proofs.YtgnjacfobdjeeaaGreat
end
namespace Go.Proofs.YtgnjacfobdjeeaaGreat
open Go.Vc
section
section
variable{m:I}{s t:O}{a r:List Int}
def pC(i:ap m s a)(o:ap m t r):dJ cw 15 [O.v s,O.v t] m (a=r):=by
 apply zI;have q:=i.len;have x:=o.len;refine⟨λh=>cK (λf=>?_) (J.aB _),λh=>?_⟩
 ·subst f;simp at h;omega
 ·have w:a.length=r.length:=by simp at h;omega
  refine eU (n:=a.length) (q▸i.fS) (λe b=>J m b/\a.take e=r.take e) ⟨J.aB _,D⟩ ?_;rintro e A I μ v ⟨c,g⟩ u
  refine dit (λp=>?_) λp=>?_
  ·obtain⟨y,j⟩:=ag (l:=a) (k:=e) V;obtain⟨z,d⟩:=ag (l:=r) (k:=e) V;refine⟨V,V,y,by simpa using c.af (i.E j),V,V,z,by simpa using c.af (o.E d),λb=>cK (λf=>?_) c,λb=>u V _ ⟨c,?_⟩⟩
   ·subst f;rw[j]at d;simp at d b;exact b d
   ·simp at b;rw[bn j,bn d,g,b]
  ·rw[cN V,cN V]at g;exact jG g c
def G5(c:ap m s a)(b:ap m t r):dJ cw 12 [O.v s,O.v t] m (a<+:r):=by
 apply BH;have g:=c.len;have j:=b.len;have i:=b.cap;refine⟨λh=>⟨cE 0,V,by simp at h;omega,?_⟩,λh=>cK (λe=>?_) (J.aB _)⟩
 ·simp at h;have e:Int.toNat (s.len:Int)=a.length:=V;rw[e];exact(pC c (eH.Rl b V)).mono λ_ k⟨d,e,f,x⟩=>⟨d,e,ft (by rw[f];exact List.prefix_iff_eq_take.symm) x⟩
 ·have:=e.length_le;simp at h;omega
def kE(p:ap m s a)(q:ap m t r)(g c k i j l:Int):dJ cw 11 [.agg #[vi g,vi c,vi k,O.v s],.agg #[vi i,vi j,vi l,O.v t]] m (g=i/\c=j/\k=l/\a=r):=by
 apply vK;simp -zeta only[aD,aC];intro u n;obtain⟨b,o⟩:=dG (a:=u) (c:=n) rfl rfl;clear_value n;refine⟨λd=>⟨λe=>⟨λf=>?_,λf=>cK (λh=>by simp[h]at f) b⟩,λe=>cK (λh=>by simp[h]at e) b⟩,λd=>cK (λh=>by simp[h]at d) b⟩;exact(pC (p.ext b) (q.ext b)).aI (J.aB _) o λc w h v _=>⟨c,rfl,ft (by rw[h];simp at d e f;simp[d,e,f]) (b.trans v)⟩
end
section
variable{m:I}{b P:Nat}{c:O}{a:List Nat}
def Jw(d:Rd b c P m)(i:P+2<=10000000000000000):aO cw 48 [vp b 0] m λv f=>(∃k,v=vi k)/\Fz [b] m f:=by
 apply Cy (b,0);refine(cB d V 12).mono λ_ j⟨k,e,_,_,g,a⟩=>⟨k,e,?_⟩;intro l;refine(CQ (Rs.mk a g) V [40,40,k,0,3,20,40,41,-1] rfl rfl D).mono λ_ n⟨t,e,_,h,_⟩=>⟨t,e,⟨t,rfl⟩,h.f⟩
def y8.ext{a:I}{cL:O}(h:y8 m cL)(x:J m a):y8 a cL:=⟨h.1,λk d=>let⟨v,b,c,g⟩:=h.2 k d;⟨v,b,c,x.af g⟩⟩
def DR(a:List Nat)(m:I)(v:Value)(b:I):Prop:=∃d p c k,v=.tuple #[.agg #[O.v d,O.v p],vi k]/\eu (bO a b) d p c/\J m b
def yz{cL:O}(h:y8 m cL)(E:∀k∈a,k<m.size):aO cw 27 [O.v cL] m (DR a m):=by
 apply tQ;simp -zeta only[aD,aC];intro b;have n:J m b:=J.push m _;have P:b.size=m.size+1:=by simp[b]
 clear_value b;refine(HI (h.ext n)).mono λ_ N⟨c,e,y,o⟩=>⟨o.dm bJ,(b.size,0),e,?_⟩;have M:=y.lt;have Q:=o.size;refine(IY (a:=m.size::b.size::a) (λk t=>?_) D y (by simp[Cg])).mono λ_ i⟨q,x,A,e,z,_,K,l⟩=>⟨l.dm bJ,q,x,e,?_⟩
 ·simp only[aU]at t;rcases t with h|h|h
  ·omega
  ·omega
  ·have:=E k h;omega
 have R:=l.size;intro G j;have p:J i j:=(J.push i _).ai (ad _) _ _;have T:j.size=i.size+1:=by simp[j,G,av]
 clear_value j;refine(Jw (K.ext p) (by simp[Cg])).mono λ_ w⟨⟨u,e⟩,d⟩=>⟨d.dm bJ,u,e,aN (d.same _ V bJ) _,aN (d.same _ V bJ) _,?_⟩;intro H;have v:Le (bO (m.size::b.size::a) i) (bO a H):=λf I L F=>by
  obtain⟨g,C⟩:=eg.1 F;have:=d.da (S:=m.size::b.size::a) D f I L (eg.2 ⟨g,p.af C⟩);simp only[aU,tH]at g;exact eg.2 ⟨g.2.2,(aN (bd _ _ _ _ g.1) _).trans (eg.1 this).2⟩
 have r:Fz [b.size] b w:=(((o.fz _).trans l).trans (p.fz _)).trans d;have B:J m w:=⟨by have:=r.size;omega,λf s=>(r.same f (n.lt s) bJ).trans (n.same f s)⟩;exact⟨q,x,⟨A.1,A.2⟩,u,rfl,⟨z.1.le v,iS.le v z.2⟩,B.ai (ad _) _ _⟩
def oD{cL:O}(h:y8 m cL):aO cw 8 [O.v cL] m (DR [] m):=by
 apply wT;simp -zeta only[aD,aC];intro a;have e:J m a:=J.push m _;have t:a.size=m.size+1:=by simp[a]
 clear_value a;refine(yz (a:=[m.size]) (h.ext e) bJ).mono λ_ o⟨d,p,n,k,g,b,f⟩=>⟨f.dm bJ,d,p,k,g,?_⟩;intro q;have c:Le (bO [m.size] o) (bO [] q):=λr s v l=>by
  obtain⟨i,j⟩:=eg.1 l;exact eg.2 ⟨D,(aN (bd _ _ _ _ (by simpa using i)) _).trans j⟩
 exact⟨d,p,n,k,rfl,⟨b.aT.le c,iS.le c b.cA⟩,(e.trans f).ai (ad _) _ _⟩
end
end
section
variable{n b:Nat}{f:Nat->Int}{d:List aX}{e:cH}{s:St}
def xW(n:Nat)(f:Nat->Int):List Int:=(List.range n).map f
def qO(n:Nat)(f:Nat->Int):(xW n f).length=n:=by simp[xW]
def Gi(h:b<n):(xW n f)[b]? =some (f b):=by
 unfold xW;rw[cQ,List.getElem?_range h];rfl
def jA{g:Nat->Int}(h:∀b,b<n->f b=g b):xW n f=xW n g:=by
 unfold xW;exact List.map_congr_left λb a=>h b (List.mem_range.1 a)
def Q5(v:Int):(xW n f).set b v=xW n (λa=>if a=b then v else f a):=by
 apply iy;intro i;by_cases a:i<n
 ·rw[Gi a];by_cases e:b=i
  ·subst e;rw[dE (by rw[qO];exact a),ao rfl]
  ·rw[cy e,Gi a,ae (λh=>e h.symm)]
 ·rw[cY (by rw[dZ,qO];omega),cY (by rw[qO];omega)]
def RE(n:Nat):xW n (λ_=>0)=cZ n:=by
 unfold xW cZ;rw[List.map_const'];simp
structure PJ(h:List bX):Prop where
 jB:pp h
 cells:∀c∈h,wD h c
 fy:∀(b:Nat)(c:bX),h[b]? =some c->0<c.aS->fy h b<=c.aS
 Nh:VV h
structure R9(h:List bX)(f:aX):Prop where
 dt:∀(k:Nat)(w o:Int),f.u[k]? =some w->f.aR[k]? =some o->(iu w\/1000<=w)/\(0<=o/\o<=999999)/\(0<o->gE h w)
structure RP(e:cH)(h:List bX)(prev:Option aX)(f:aX):Prop where
 eP:0<=f.eP/\f.eP<e.cA.length
 pc:0<=f.pc/\f.pc<(dx e f.eP).cL.length
 lr:(f.u.length:Int)=(dx e f.eP).u
 lo:(f.aR.length:Int)=(dx e f.eP).u
 lh:(f.bo.length:Int)=(dx e f.eP).u
 u:R9 h f
 first:prev=none->f.dst=0
 next:∀p,prev=some p->0<=f.dst/\f.dst<p.aR.length/\E p.aR f.dst=0
def zN(d:List aX):Nat->Option aX
 |0=>none
 |k+1=>d[k]?
structure V2(h:List bX)(d:List aX):Prop where
 cv:∀f∈d,∀w∈f.bo,w=0\/(1000<=w/\ix w<h.length)
 kj:∀(i:Nat)(c:bX),h[i]? =some c->c.aS<0->holds d i=1
 nu:∀(i:Nat)(c:bX),h[i]? =some c->0<=c.aS->holds d i=0
structure Oq(e:cH)(s:St):Prop where
 fe:gP e
 bU:0<=s.bU/\s.bU<=3
 done:s.bU=0<->s.az=[]
 value:iu s.value
 ve:s.value≠0->s.bU=0
 bA:0<=s.bA/\s.bA<=40
 bq:0<=s.bq/\s.bq<=s.bA
 depth:(s.az.length:Int)<=s.bq+1
 aW:∀n∈s.aW,iu n
 heap:PJ s.heap
 az:∀(k:Nat)(f:aX),s.az[k]? =some f->RP e s.heap (zN s.az k) f
 bo:V2 s.heap s.az
 SC:∀(b:Nat)(c:bX),s.heap[b]? =some c->0<c.aS->c.aS=fy s.heap b+gN s.az b
def O6:∀{d:List aX}{b:Nat},0<gN d b->∃f∈d,0<dj f.u f.aR b
 |[],b,h=>by simp[gN]at h
 |f::d,b,h=>by
  simp only[gN]at h;by_cases c:0<dj f.u f.aR b
  ·exact⟨f,D,c⟩
  ·obtain⟨g,e,i⟩:=O6 (d:=d) (b:=b) V;exact⟨g,by simp[e],i⟩
def MG:∀{u aR:List Int}{b:Nat},0<dj u aR b->∃(k:Nat)(o:Int),u[k]? =some (1000+(b:Int))/\aR[k]? =some o/\0<o
 |[],aR,b,h=>by simp[dj]at h
 |_::_,[],b,h=>by simp[dj]at h
 |r::i,o::g,b,h=>by
  simp only[dj]at h;by_cases a:r=1000+(b:Int)/\0<o
  ·exact⟨0,o,by simp[a.1],rfl,a.2⟩
  ·have:0<dj i g b:=by
    split at h
    ·rename_i e;have:¬0<o:=λc=>a ⟨e,c⟩;omega
    ·omega
   obtain⟨k,f,c,d,e⟩:=MG this;exact⟨k+1,f,by simpa using c,by simpa using d,e⟩
def Um{f:aX}(a:f∈d)(c:∀g∈d,0<=dj g.u g.aR b):dj f.u f.aR b<=gN d b:=by
 induction d with
 |nil=>simp at a
 |cons g d i=>
  have m:0<=gN d b:=by
   clear i a;induction d with
   |nil=>simp[gN]
   |cons q d j=>
    have k:=c q D;have l:=j (λx e=>c x (by simp at e⊢;rcases e with h|h;exact Or.inl h;exact Or.inr (Or.inr h)));simp only[gN];omega
  simp only[gN];rcases List.mem_cons.1 a with rfl|a
  ·omega
  ·have:=i a λx e=>c x (by simp[e]);have:=c g D;omega
def SX(a:∀g∈d,0<=dj g.u g.aR b):0<=gN d b:=by
 induction d with
 |nil=>simp[gN]
 |cons q d e=>
  have f:=a q D;have g:=e λx c=>a x (by simp[c]);simp only[gN];omega
def OV{f:aX}(a:f∈d):eL f.bo b<=holds d b:=by
 induction d with
 |nil=>simp at a
 |cons g d c=>
  simp only[holds];rcases List.mem_cons.1 a with rfl|a
  ·have:=zr d b;omega
  ·have:=c a;have:=iG g.bo b;omega
def Kf(h:∀f∈d,∀w∈f.bo,w≠1000+(b:Int)):holds d b=0:=by
 induction d with
 |nil=>rfl
 |cons g d e=>
  simp only[holds];rw[e λf a=>h f (by simp[a]),nJ λc=>h g D _ c rfl];rfl
def G8{f:aX}(h:f∈d):∃k:Nat,d[k]? =some f:=List.mem_iff_getElem?.1 h
def Qx(h:Oq e s):dh e s:=by
 have u:∀f∈s.az,∃r,RP e s.heap r f:=λf d=>let⟨c,i⟩:=G8 d;⟨_,h.az c f i⟩;have B:∀b,∀m∈s.az,0<=dj m.u m.aR b:=λb m v=>by
  obtain⟨r,a⟩:=u m v;refine td (λo n=>?_) b;obtain⟨c,i⟩:=List.mem_iff_getElem?.1 n;have x:=ax i;have g:=a.lr;have t:=a.lo;obtain⟨w,j⟩:=ag (l:=m.u) (k:=c) V;exact(a.u.dt c w o j i).2.1.1
 refine⟨h.fe,h.bU,h.done,h.value,h.ve,h.bA,h.bq,h.depth,h.aW,⟨h.heap.cells,h.heap.Nh,h.SC,λb=>SX (B b),λb A=>?_⟩,h.heap.jB,λf d=>?_,λf d=>(h.az 0 f d).first rfl,λc f m d v=>(h.az (c+1) m v).next f d,λb⟨p,q,y⟩=>h.bo.kj b p q y,λb i=>?_⟩
 ·obtain⟨f,d,a⟩:=O6 A;obtain⟨c,o,g,t,z⟩:=MG a;obtain⟨r,a⟩:=u f d;have:=((a.u.dt c _ o g t).2.2 z).2;rwa[mO]at this
 ·obtain⟨r,a⟩:=u f d;refine⟨a.eP,a.pc,a.lr,a.lo,a.lh,λw j=>?_,λc o w n j=>?_,λw j=>?_⟩
  ·obtain⟨c,i⟩:=List.mem_iff_getElem?.1 j;have x:=ax i;have g:=a.lr;have t:=a.lo;obtain⟨o,n⟩:=ag (l:=f.aR) (k:=c) V;exact(a.u.dt c w o i n).1
  ·have:=a.u.dt c w o j n;exact⟨this.2.1.1,λz=>(this.2.2 z).1⟩
  ·rcases h.bo.cv f d w j with g|g
   ·exact Or.inl g
   ·exact Or.inr g.1
 ·rcases be b s.heap.length with x|C
  ·obtain⟨p,q⟩:=ag x;refine h.bo.nu b p q (Int.not_lt.1 λy=>i ⟨p,q,y⟩)
  ·refine Kf λf d w j z=>?_;rcases h.bo.cv f d w j with g|g
   ·omega
   ·have:=g.2;rw[z,mO]at this;omega
def Sj(h:dh e s):Oq e s:=by
 have E:∀b,∀p∈s.az,0<=dj p.u p.aR b:=λb p D=>td (h.az p D).O2 b;have y:∀f∈s.az,∀(k:Nat)(w o:Int),f.u[k]? =some w->f.aR[k]? =some o->0<o->gE s.heap w/\o<=999999:=λf g k w o i n q=>by
  have m:=((h.az f g).aR k o w n i).2 q;have A:=iI m;have B:=Kw (h.az f g).O2 i n (d:=ix w) A.symm;have C:=Um g (E (ix w));have x:=h.heap.lv (ix w) V;obtain⟨j,d,c⟩:=x;have I:=h.heap.ex _ j d c;have J:=ur s.heap (ix w);have K:=(h.heap.cell j (ar d)).hi;exact⟨⟨m,j,d,c⟩,V⟩
 refine⟨h.fe,h.bU,h.done,h.value,h.ve,h.bA,h.bq,h.depth,h.aW,⟨h.jB,h.heap.cell,λb j d c=>?_,h.heap.Nh⟩,λk f g=>?_,⟨λf g w i=>?_,λu j d z=>h.kj u ⟨j,d,z⟩,λu j d z=>h.nu u λ⟨H,r,L⟩=>?_⟩,h.heap.ex⟩
 ·have:=h.heap.ex b j d c;have:=h.heap.nn b;omega
 ·have t:=ar g;have F:=h.az f t;refine⟨F.eP,F.pc,F.lr,F.lo,F.lh,⟨λv w o i n=>⟨F.MM w (ar i),⟨(F.aR v o w n i).1,?_⟩,λc=>(y f t v w o i n c).1⟩⟩,λc=>?_,λG c=>?_⟩
  ·rcases If 0 o with q|q
   ·exact(y f t v w o i n q).2
   ·omega
  ·cases k with
   |zero=>exact h.first f g
   |succ k=>
    simp only[zN]at c;have:=ax g;rw[List.getElem?_eq_none_iff]at c;omega
  ·cases k with
   |zero=>simp[zN]at c
   |succ k=>exact h.chain k G f c g
 ·rcases(h.az f g).bo w i with m|m
  ·exact Or.inl m
  ·refine Or.inr ⟨m,Nat.lt_of_not_le λt=>?_⟩;have B:=h.nu (ix w) λ⟨j,d,_⟩=>by have:=ax d;omega
   have C:=OV g (b:=ix w);have x:=um (l:=f.bo) (f:=ix w) (by rw[iI m];exact i);omega
 ·rw[d]at r;simp at r;subst r;omega
end
section
variable{M:I}{b n a:Nat}{f:Nat->Int}
def Lu(w:Int):Prop:=-9223372036854775808<=w/\w<=9223372036854775807
def WZ(h:List bX):Prop:=∀c∈h,∀w∈c.aL,Lu w
def EB(B:cF M b aE ((xW n f).map Ce.i))(h:a<n):af M b a=some (vi (f a)):=by
 rw[B.cp a,cQ,Gi h];rfl
def Qy(B:cF M b aE ((xW n f).map Ce.i))(a:Nat)(v:Int):cF (ai M b a [.i v]) b aE ((xW n (λx=>if x=a then v else f x)).map Ce.i):=by
 have:=B.ai (m:=M) (o:=a) (r:=[.i v]);rw[zU,Q5]at this;exact this
def Tf(B:cF M b aE ((xW n f).map Ce.i))(h:a<n):fH M b a 1:=B.fH (by simp[qO];omega)
def Us(B:cF M b aE ((xW n f).map Ce.i))(h:n<=9223372036854775807):ap M (.mk b 0 n n) (xW n f):=
 ⟨by simp[qO],ad _,h,λk x a=>⟨[.i x],rfl,λi e c=>by
  have d:k<n:=by have:=ax a;rwa[qO]at this
  rw[Gi d]at a;simp at a;cases i with
  |zero=>simp at c;subst c;have:=EB B d;rw[a]at this;simpa[Ce.v]using this
  |succ i=>simp at c⟩⟩
def Te(M:I)(n:Nat):cF (M.push (.cells (bG (ni [.i (0:Int)] n)) aE)) M.size aE ((xW n (λ_=>0)).map Ce.i):=by
 rw[tE,RE];exact cF.push M _ _
def Ry{h:List bX}{i:Nat}{c:bX}(b:h[i]? =some c)(a:Nat):fy (h.take (i+1)) a=fy (h.take i) a+eL c.aL a:=by
 rw[bn b,uq];simp[fy]
def Fs{l:List Int}{k:Nat}{w:Int}(b:l[k]? =some w)(a:Nat):eL (l.take (k+1)) a=eL (l.take k) a+(if w=1000+(a:Int)then 1 else 0):=by
 rw[bn b,lM];simp[eL]
def JH:∀(h:List bX)(a:Nat),(∀c∈h,c.aL.length<=3)->fy h a<=3*h.length
 |[],a,_=>by simp[fy]
 |c::h,a,b=>by
  have f:=JH h a λd e=>b d (by simp[e]);have g:=lO c.aL a;have i:=b c D;simp only[fy,aY];omega
end
end Go.Proofs.YtgnjacfobdjeeaaGreat
