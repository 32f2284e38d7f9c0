/- Part of a proof. -/
import Derived.Test.YtbbbdejieenniaaGreatRA02
set_option linter.all false
set_option maxHeartbeats 8000000
set_option maxRecDepth 100000
namespace Go.Proofs.YtbbbdejieenniaaGreat
open Go.Vc
section
variable{b:ad}{m:E}{c d p:N}{a:av}
def KR(v:∀a∈b,a<m.size){l:ab}(h:bd m c l)(w:l.length<=10^12)(t:Int):od 340 [c.v,vi t] m b λa=>(∀y∈a,0<=y/\y<(l.length:Int))/\a.length<=l.length:=by
 apply Ds;intro B;have q:=h.aS;refine gP (n:=l.length) (q▸h.kA) (λk s M=>J m M/\∃a,GI b m M s a/\(∀y∈a,0<=y/\y<(l.length:Int))/\a.length<=k) ⟨J.push m _,[],GI.gD b m,bO,bW⟩ ?_;rintro k s M I μ z ⟨e,a,g,f,A⟩ j
 refine⟨λi=>?_,λi=>⟨s,a,rfl,g,⟨f,V⟩,e⟩⟩;simp only[bh]at i;let⟨x,r⟩:=dY l k;refine⟨V,V,x,(h.ext e).D r,λ_=>?_,λ_=>j V _ _ ⟨e,a,g,f,V⟩⟩;intro C;exact GI.nA g (e.fz []) V λD u p o _ _=>j V _ _ ⟨o.ext,_,p,λy d=>by
  rcases bR.1 d with d|d
  .exact f y d
  .simp at d;omega,fj⟩
def YT(m:E)(b:ae)(p:dP):Prop:=∃a x y z,b=[.s a,.i p.bL,.i x,.i y,.s z]/\bd m a p.aX
abbrev tD(m:E)(s:N)(l:av):Prop:=fU m 5 (YT m) s l
theorem YT.le{m b:E}(h:Le m b){a:ae}{p:dP}:YT m a p->YT b a p:=λ⟨c,x,y,z,d,e⟩=>⟨c,x,y,z,d,e.le h⟩
def tD.le{m a:E}(b:Le m a){s:N}{l:av}(h:tD m s l):tD a s l:=by grind [fU.le,YT.le]
theorem tD.D{s:N}{l:av}(h:tD m s l){k:Nat}{p:dP}(d:l[k]? =some p):∃a,bd m a p.aX/\aR m s.bq (s.off+k*5)=some a.v/\aR m s.bq (s.off+k*5+1)=some (vi p.bL):=by
 obtain⟨e,⟨a,x,y,z,rfl,c⟩,b⟩:=h.kV k p d;exact⟨a,c,b 0 _ rfl,b 1 _ rfl⟩
def ClQ(b:af)(a:av)(t y:Int):Prop:=∃(f:Nat)(q:dP),y=f/\a[f]? =some q/\0<q.aX.length/\(0<t->∃d∈b,d.dS.length=0/\q.aX.getLast?=some d.qd/\q.bL=d.to)
def Cu(hS:∀j∈b,j<m.size){g:af}(hd:dq m d g)(Z:eP g)(o:tD m p a)(hf:a.length<=1000)(v:Int):od 346 [.agg #[d.v,p.v],vi v] m b λc=>(∀y∈c,ClQ g a v y)/\c.length<=a.length:=by
 apply GH;simp -zeta only[dU];intro e q;have K:=px e;have F:∀j∈[m.size],j<e.size:=by simp[e]
 have Q:GI b e q (.mk e.size 0 0 0) []:=GI.gD b e;have x2:=px q;clear_value q;clear_value e;have Y:=o.aS;refine gP (n:=a.length) (Y▸o.kA) (λk t M=>J e M/\∃c,GI b e M t c/\(∀y∈c,ClQ g a v y)/\c.length<=k) ⟨x2,[],Q,bO,bW⟩ ?_;rintro k t M ab μ hk ⟨z,c,h,i,ad⟩ r
 have u:=K.O z;refine⟨λE=>?_,λE=>⟨t,c,rfl,h.da (λ_ D=>D) K.aP,⟨i,V⟩,u⟩⟩;simp only[bh]at E;let⟨s,H⟩:=dY a k;let⟨A,l,B,O⟩:=o.D H;have ac:=l.aS;have ae:=l.kA;refine⟨V,V,_,u.aR B,λR=>?_,λ_=>r V _ _ ⟨z,c,h,i,V⟩⟩;simp only[bh]at R;rw[dt (b:=(A.len:Int) -1) V V];let⟨y,I⟩:=dY s.aX (((A.len:Int) -1).toNat);refine⟨V,V,_,u.aR B,V,V,y,(l.ext u).D I,V,V,_,u.aR O,?_⟩;refine(EB (hd.le u.le) Z y s.bL).bK z F λah m3 G L w=>⟨_,rfl,λX=>?_,λ_=>r V _ _ ⟨w,c,h.ext L,i,V⟩⟩;intro m4;refine GI.nA (h.ext L) (w.fz []) V λai M' P C _ _=>⟨J.sK (w.cw _) C.ext F,r V _ _ ⟨C.ext,_,P,λaa f=>?_,fj⟩⟩;rcases bR.1 f with f|f
 .exact i aa f
 .simp at f X;refine⟨k,s,f,H,V,λD=>?_⟩;rcases G with G|⟨ag,N,_,W,S,T,U⟩
  .omega
  .refine⟨N,aZ W,S,?_,U.symm⟩;rw[List.getLast?_eq_getElem?,T,<-I];congr 1;omega
def tZ{j:af}{v:ab}(hd:dq m d j)(k:eP j)(q:tD m p a)(o:a.length<=1000)(r:bd m c v)(t:Int):sU 341 [.agg #[d.v,p.v],c.v,vi t] m:=by
 apply IN;simp -zeta only[dU];intro b;have g:=px b;have f:∀n∈[m.size],n<b.size:=by simp[b]
 clear_value b;refine(qG (hd.le g.le) k t).jQ.bK (J.cZ b) f λl x h _=>⟨_,rfl,λ_=>rA (g.O h),λ_=>?_⟩;have e:=g.O h;refine(Cu (b:=[]) bO (hd.le e.le) k (tD.le e.le q) o t).bK h f λA w y _ _ i s=>⟨_,rfl,λ_=>rA (e.O i),λ_=>?_⟩;exact(fF (r.ext (e.O i)) t).jQ.bK s f λl z u _=>⟨_,rfl,rA ((e.O i).O u)⟩
end
def P9{a P:Nat}{p:N}{m:E}(h:Rd a p P m)(Q:P+1<=10^16){q v x:N}{g:af}{r:av}{L:ab}(hd:dq (dg [a] m) q g)(H:eP g)(G:tD (dg [a] m) v r)(B:r.length<=1000)(I:bd (dg [a] m) x L):
 bJ dN 334 [vp a 0,.agg #[q.v,v.v],x.v] m λw u=>∃k:Int,w=vi k/\(k=1\/0<=k/\k<=4/\k<=g.length)/\Rd a p (P+1) u/\Fz [a] m u:=by
 apply IL (a,0)
 simp -zeta only[dU]
 intro o b
 have U:=pz o
 have M:=px o
 have y:=px b
 have z:J m b:=M.O y
 have S:=h.lt
 have t:∀c∈[m.size],c<b.size/\c∉[a]:=λc l=>by have:=y.aP;simp at l⊢;omega
 have K:bd (dg [a] b) (.mk o.size 0 7 7) [1,1,3,0,2,4,3]:=bd.jU bE fj rfl rfl bO
 clear_value b
 have R:=hd.aS
 refine(nX (h.ext z) V K bO).aO λw e⟨k,A,C,j,i⟩=>⟨i.fq t,k,A,?_⟩
 have d:Fz [a] m e:=(z.fz _).O i
 have s:0<=k/\k<=4:=by simp at C;omega
 refine⟨λ_=>⟨1,rfl,bu rfl,j,d⟩,λF=>?_⟩
 simp only[dF]at F
 have n:Le (dg [a] m) e:=(d.eU λ_ h=>h).O fG
 have D:∀c∈[m.size],c<e.size:=λc l=>cp (t c l).1 i.aP
 refine(tZ (hd.le n) H (tD.le n G) B (I.le n) k).bK (J.cZ e) D λO T f _=>⟨_,rfl,λ_=>⟨1,rfl,bu rfl,j.ext f,d.bZ f⟩,λ_=>⟨k,rfl,bG ⟨s.1,s.2,V⟩,j.ext f,d.bZ f⟩⟩

section
variable{t:Int}{x:Ex}
def OR:af:=[⟨0,0,[[],[0,1]]⟩,⟨0,0,[]⟩,⟨0,0,[[],[3,0,3]]⟩]
def Xe:af:=[⟨0,0,[[1,3]]⟩,⟨1,0,[]⟩,⟨0,0,[[1,1,0],[0],[3]]⟩,⟨0,1,[]⟩]
def vH:List af:=OR::Xe.map λd=>OR++[d]
def TJ:List (ab×Int):=[([],0),([1],0),([1,1],1),([1],1),([1,0],1),([2,1],1),([1,1],0),([3],0),([0],1),([0,1],1),([3,0],3),([3],1),([1,3,0],0),([0],0),([0,0],0),([1,0],0)]
@[grind cases] structure GP (ds:af) (fs:av):Prop where
 ds:ds∈vH
 iT:0<fs.length
 pF:fs.length<=4
 eN:∀q∈fs,(q.aX,q.bL)∈TJ
def Lo(t:Int):Prop:=t=0\/t=1\/t=3
instance(t:Int):Decidable (Lo t):=inferInstanceAs (Decidable (_\/_))
def Ty(b:af)(t:Int):Prop:=0<=t/\t<=(b.length:Int)
instance(b:af)(t:Int):Decidable (Ty b t):=inferInstanceAs (Decidable (_/\_))
section
variable{b:af}{e:av}
theorem tE:∀b∈vH,3<=b.length/\b.length<=4:=cH
def Vs:∀b∈vH,∀t∈[(0:Int),1,2,3,4],∀c∈(cT b t).take 2,((cT b t).head?=some c\/t∉cW b c)->(cW b c).length<=3/\(∀f∈cW b c,Lo f)/\(Lo t->(cW b c).length=0):=cH
def WG:∀b∈vH,0<(cT b 1).length/\0<(cT b 3).length/\(cT b 0).length=0:=cH
def Vq:∀b∈vH,∀d∈b,d.dS.length=0->∀s∈TJ,s.1.getLast?=some d.qd->s.2=d.to->∀f∈s.1.dropLast,Lo f:=cH
theorem Rp:∀b∈vH,cT b 1=[0,1]/\cT b 3=[2,3]/\cW b 0=[]/\cW b 1=[0,1]/\cW b 2=[]/\cW b 3=[3,0,3]:=cH
def DH:∀b∈vH,(∀t∈[(0:Int),1,2,3,4],∀c∈cT b t,(cW b c).length<=3/\∀f∈cW b c,Ty b f)/\(∀t∈[(0:Int),1,2,3,4],(cT b t).length<=3)/\(∀d∈b,Ty b d.qd):=cH
def Vr:∀b∈vH,∀t∈[(1:Int),3,4],(t:Int)<=b.length->(∀d∈b[t.toNat -1]?,d.dS.length≠0)->0<(cT b t).length:=cH
def AW:∀s∈TJ,s.1.length<=3/\(∀t∈s.1,0<=t/\t<=3)/\0<=s.2/\s.2<=3:=cH
def aay(a:0<=t)(b:t<=4):t∈[(0:Int),1,2,3,4]:=fj
def Ty.adF(hd:b∈vH)(h:Ty b t):t∈[(0:Int),1,2,3,4]:=aay h.1 (Xm (tE b hd) h.2)
def GP.ty(h:GP b e)(a:0<=t)(c:t<=3):Ty b t:=⟨a,oh (tE b h.ds)⟩
theorem Lo.ty(hd:b∈vH)(h:Lo t):Ty b t:=by have:=tE b hd;unfold Lo at h;constructor<;>omega
end
def YV:∀b∈vH,∀d∈b,0<d.dS.length->d.dS.length<=3/\d.qd=0/\d.to=0/\∀f∈d.dS,f.length<=3/\∀t∈f,0<=t/\t<=(b.length:Int):=cH
def YW:∀b∈vH,∀k∈List.range b.length,∀d∈b[k]?,d.dS.length=0->(∀e∈b.take k,¬(e.dS.length=0/\e.qd=d.qd/\e.to=d.to))/\Ty b d.qd/\Ty b d.to:=cH
def wZ{b:af}(h:b∈vH):eP b:=
 ⟨(tE b h).2,λk d a=>⟨YV b h d (aZ a),YW b h k (qQ.2 (bA a)) d a⟩⟩
@[grind cases] structure XF (ds:af) (nf a:Nat) (op cE:Int) (n:Nat):Prop where
 o:0<=op/\op<=13
 Z1:op=12->0<=cE/\cE<(a:Int)
 MG:op=13->n=2
 aev:op=7->n=3
 lQ:op=8->n=1+(cT ds cE).length/\0<(cT ds cE).length
 jr:op=9->0<=cE/\cE<(nf:Int)
def xb(b:af)(c cE:Int):Nat->Nat
 |0=>0
 |i+1=>if c=13 then 1 else FR b c cE i
inductive WX(b:af)(d:Nat):Nat->Ex->Prop
 |mk {a:Nat} {c cE:Int} {dm:ax} (iL:XF b d a c cE dm.length) (hk:∀(i:Nat)(e:Ex),dm[i]? =some e->WX b d (a+xb b c cE i) e):WX b d a (.mk c cE dm)
variable{b:af}{d a:Nat}{c cE:Int}{dm:ax}
def WX.cC{e:Ex}(h:WX b d a e):XF b d a e.op e.cE e.dm.length/\∀(i:Nat)(x:Ex),e.dm[i]? =some x->WX b d (a+xb b e.op e.cE i) x:=by
 cases h with
 |mk iL c=>exact⟨iL,c⟩
def aeB(a:c≠13)(d:c≠8)(i:Nat):xb b c cE i=0:=by
 cases i with
 |zero=>rfl
 |succ i=>show(if c=13 then 1 else FR b c cE i)=0;rw[aU a,OT d]
theorem WX.iL(k:0<=c/\c<=11)(g:c=7->dm.length=3)(f:c≠8)(i:c=9->0<=cE/\cE<(d:Int))(j:∀e∈dm,WX b d a e):WX b d a (.mk c cE dm):=
 .mk ⟨⟨V,V⟩,λh=>V,λh=>V,g,λh=>absurd h f,i⟩ λl e h=>by rw[aeB V f];exact j e (aZ h)
def WX.pS(n:Int):WX b d a (.mk 0 n []):=by grind [WX.iL]
def WX.Z1(h:0<=cE/\cE<(a:Int)):WX b d a (.mk 12 cE []):=.mk ⟨cH,λ_=>h,λh=>V,λh=>V,λh=>V,λh=>V⟩ bO
def WX.lt{y:Ex}(e:WX b d a x)(f:WX b d (a+1) y):WX b d a (.mk 13 0 [x,y]):=
 .mk ⟨cH,λh=>V,λ_=>rfl,λh=>V,λh=>V,λh=>V⟩ λi g c=>by
  rcases i with _|_|i
  .simp at c;subst c;exact e
  .simp at c;subst c;exact f
  .simp at c
theorem WX.mt{l:ax}(k:WX b d a x)(n:l.length=(cT b cE).length)(m:0<l.length)(j:∀(i:Nat)(e:Ex)(f:Int),l[i]? =some e->(cT b cE)[i]? =some f->WX b d (a+(cW b f).length) e):WX b d a (.mk 8 cE (x::l)):=
 .mk ⟨cH,λh=>V,λh=>V,λh=>V,λ_=>⟨fj,V⟩,λh=>V⟩ λi e c=>by
  rcases i with _|i
  .simp at c;subst c;exact k
  .simp at c;let⟨f,g⟩:=dY (cT b cE) i (oh (bA c));have:=j i e f c g;show WX b d (a+FR b 8 cE i) e;grind [OS]
end
section
variable{X:ad}{b k c:Nat}{s:N}
@[grind cases] structure GC (rb:Nat) (bs:N) (P:Nat) (d p:N) (ds:af) (fs:av) (m:E):Prop where
 rd:Rd rb bs P m
 hd:dq (dg [rb] m) d ds
 hp:tD (dg [rb] m) p fs
 gp:GP ds fs
def Lw(a:Nat)(L:ad)(m:E):Prop:=∀b∈L,b<m.size/\b≠a
def XP(S:ad)(b:Nat)(c:N)(m:E)(P:Nat)(Q:Ex->Prop)(v:Value)(a:E):Prop:=∃s e,v=.agg #[vi e.op,vi e.cE,s.v]/\jc (dg S a) s e.dm/\Q e/\Rd b c P a/\Fz [b] m a
abbrev IR(a:Nat)(m:E)(s:N)(l:ab):Prop:=bd (dg [a] m) s l
section
variable{e P i:Nat}{h d p:N}{l:af}{n:av}{m M g:E}{S L:ad}{f:Nat}{j:ap}{Q Q':Ex->Prop}
def fh(f:Fz [e] m M):Le (dg [e] m) (dg [e] M):=f.eU λ_ h=>h
def GC.to(a:GC e h P d p l n m)(f:Fz [e] m M)(r:Rd e h i M):GC e h i d p l n M:=⟨r,a.hd.le (fh f),tD.le (fh f) a.hp,a.gp⟩
def GC.ext(a:GC e h P d p l n m)(x:J m M):GC e h P d p l n M:=a.to (x.fz _) (a.rd.ext x)
def GC.dh(a:GC e h P d p l n m):eP l:=wZ a.gp.ds
def Lw.fz(h:Lw e L m)(f:Fz X m M):Lw e L M:=λb a=>⟨cp (h b a).1 f.aP,(h b a).2⟩
def Lw.lt(h:Lw e L m)(f:Fz X m M):∀b∈L,b<M.size:=λb a=>(h.fz f b a).1
def Lw.fq(h:Lw e L m)(f:Fz [e] m M):gL L m M:=f.fq λb a=>⟨(h b a).1,by have:=(h b a).2;simpa using this⟩
theorem Lw.dz(h:Lw e L m)(f:Fz [e] m M)(c:Fz [e] M g)(a:b∈L){o:Nat}:aR g b o=aR M b o:=bB (c.bC b (h.fz f b a).1 (by have:=(h b a).2;simpa using this)) o
def XP.aO{P i:Nat}(k:∀a,Q a->Q' a)(j:P<=i){v:Value}:XP S e h m P Q v M->XP S e h m i Q' v M:=λ⟨s,a,b,c,d,f,g⟩=>⟨s,a,b,c,k a d,f.aO j,g⟩
def XP.bZ{K:ai}(c:bJ dN f j M (XP S e h M P Q))(m:Lw e L M)(n:∀s a g,jc (dg S g) s a.dm->Q a->Rd e h P g->Fz [e] M g->K (.agg #[vi a.op,vi a.cE,s.v]) g):bJ dN f j M λv g=>gL L M g/\K v g:=
 c.aO λv g⟨s,a,d,i,k,l,b⟩=>⟨m.fq b,d▸n s a g i k l b⟩
def Lw.wL(h:Lw e L m)(f:Fz [e] m M)(c:Fz [e] m g):gL L M g:=λb a=>by
 have:=h b a;grind [Fz.bC]
def XP.pU{p:Nat}(q:bJ dN f j M (XP (b::S) e h M P Q))(t:Lw e L M)(o:Fz [e] m M)(r:Rd e h p m)(n:m.size<=b)(v:∀a,Q a->Q' a)(u:P<=i):
 bJ dN f j M λA g=>gL L M g/\∃c d:Int,∃k:N,A=.agg #[vi c,vi d,k.v]/\XP S e h m i Q' (.agg #[vi c,vi d,k.v]) (aV g b 0 [.i c,.i d,.s k]):=
 XP.bZ q t λs a g z y w l=>⟨_,_,_,rfl,s,a,rfl,jc.le (dQ bO λB x=>aW _ x) z,v a y,r.aV (w.aO u) (o.O l) n 0 _,(o.O l).aV (bG n) _ _⟩
abbrev GE(S:ad)(a m:E)(s:N)(l:ax):Prop:=Gr S a m dx 3 DA s l
def XP.nA{B:Nat}{i:E}{s:N}{n:ax}{K:N->E->Prop}(D:bJ dN f j M (XP (s.bq::S) e h M P Q))(t:GE S i M s n)(z:Fz [e] i M)(w:Lw e L i)(u:Rd e h B i)(H:e∈S)(l:n.length<=1000)
 (F:∀c r g,Q c->GE S i g r (n++[c])->Rd e h P g->Fz [e] i g->Fz [e,s.bq] M g->(r.bq=s.bq\/M.size<=r.bq)->K r g):
 bJ dN f j M λO k=>gL L M k/\∃o p:Int,∃q:N,O=.agg #[vi o,vi p,q.v]/\
  lS (k.push (.cells (de [.i o,.i p,.s q]) dx)) dx [.i 0,.i 0,.s .nil] 40 s (N.mk k.size 0 1 1) λr g=>gL L (k.push (.cells (de [.i o,.i p,.s q]) dx)) g/\K r g:=
 XP.bZ D (w.fz z) λU c k J G x d=>⟨_,_,_,rfl,by
  have T:=t.cD;have I:=u.lt;have v:=z.O d;refine Gr.nA (g:=[.i 0,.i 0,.s .nil]) (k:=c) DA.aO cH (t.fL DA.aO d (by simp;exact⟨H,I⟩)) v (by cases c;exact DA.of J) V λr g C m R A=>⟨w.wL (v.push _) m,F c r g G C (u.Bj x m (A e x.lt V)) m ⟨fA d.aP R.1,λb y l=>?_⟩ (oh d.aP)⟩;simp only[aY,mV,FO,Cj]at l;rw[A b (cp y d.aP) l.2,d.bC b y (sp l.1)]⟩
def adI{b:E}(h:Fz [e,k] b M)(c:s.bq=k\/b.size<=s.bq)(a:Fz [e,s.bq] M g):Fz [e,k] b g:=
 by grind [Fz.vX]
end
def qH{S:ad}{d P:Nat}{b:N}{m:E}{dm:ax}(j:Rd d b P m)(h:jc (dg S m) s dm)(a cE:Int):bJ dN 320 [vi a,vi cE,s.v] m (XP S d b m P (.mk a cE dm=·)):=
 (Nl h a cE).aO λv l⟨k,e,f,g,i,c⟩=>⟨k,e,f,g,i,j.ext c,c.fz _⟩
def SmQ(b:af)(d:av)(c:Nat)(e:Ex):Prop:=(∀a,WX b d.length a e)/\e.n<=c
def acE(c k:Nat)(e:af)(f:av)(t:Int):Prop:=∀(S:ad)(a P:Nat)(b d p:N)(m:E),(∀g∈S,g<m.size)->a∈S->GC a b P d p e f m->P+k<=10^16->
 bJ dN 342 [vp a 0,.agg #[d.v,p.v],vi t] m (XP S a b m (P+k) (SmQ e f c))
def Xs{a:af}{b:av}{l:ax}{f i:Int}(m:f=6\/f=10)(h:∀e∈l,SmQ a b 1 e)(k:l.length+1<=c):SmQ a b c (.mk f i l):=
 ⟨λg=>.iL V (λh=>V) V (λh=>V) λe d=>(h e d).1 g,by
  rw[Ex.Yf];have:∀l:ax,(∀e∈l,SmQ a b 1 e)->en l<=l.length:=λl=>by
   induction l with
   |nil=>simp
   |cons x l j=>intro h;rw[Sn,dE];have:=(h x bO).2;have:=j λe d=>h e (by simp[d]);omega
  have:=this l h;omega⟩
theorem Uz{d:af}{X:av}{t:Int}(ht:Ty d t)(hB:(Lo t/\c=1/\k=5)\/((∀a,Lo a->acE 1 5 d X a)/\c=4/\k=20)):acE c k d X t:=by
 intro p f A G al aq ap hS aa a hP;apply Hm (f,0);simp -zeta only[dU];intro m ab;let⟨x2,hl⟩:=fN (a:=m) (c:=ab) rfl rfl;have s1:=pz m;clear_value ab;have hr:=a.rd.lt;have L2:Lw f [m.size,ap.size] ab:=λb I=>⟨hl b I,by simp at I;omega⟩;have U:=a.dh;have h5:=Ty.adF a.gp.ds ht;have ae:∀e∈m.size::p,e<ab.size:=by grind [dC,J.aP]
 have c2:=a.ext x2;refine(ku (e:=[f]) cG (c2.hd.le fG) U t).aO λz m3⟨cs,l,e,hc,q,F⟩=>⟨L2.fq (F.fz _),cs,e,?_⟩;subst q;have B:=c2.ext F;have K:=L2.fz (F.fz []);have u3:=x2.O F;have aG:=hc.aS;refine dit (λh0=>?_) λh0=>?_
 .let⟨T,aj⟩:=dY (cT d t) 0;have hh:(cT d t).head?=some T:=by rw[List.head?_eq_getElem?];exact aj
  have R:T∈(cT d t).take 2:=Hv.2 ⟨0,V,by have:=ph.1 aj;exact this.2⟩;have A0:∀{M:E},Fz [f] m3 M->aR M cs.bq (cs.off+Int.toNat 0*1)=some (vi T):=λO=>(gV.1 ((hc.le (fh O)).D aj)).2;refine⟨cH,V,T,A0 nK,λa M=>a∈(cT d t).take 2/\Rd f G (A+1) M/\Fz [f] m3 M,⟨λH=>?_,λH=>⟨R,B.rd.aO V,nK⟩⟩,?_⟩
  .simp only[bh]at H;let⟨o,i⟩:=dY (cT d t) 1;have t1:o∈(cT d t).take 2:=Hv.2 ⟨1,V,by have:=ph.1 i;exact this.2⟩;refine(dW B.rd V 4).aO λz m4⟨D,e,_,_,j,g⟩=>⟨K.fq g,D,e,λh=>⟨cH,V,o,(gV.1 ((hc.le (fh g)).D i)).2,t1,j,g⟩,λh=>⟨R,j,g⟩⟩
  rintro c' x ⟨aw,u,i⟩;have L:=K.fz i;refine⟨λa M=>a∈(cT d t).take 2/\((cT d t).head?=some a\/t∉cW d a)/\Rd f G (A+1) M/\Fz [f] m3 M,?_,?_⟩
  .refine(fS (e:=[]) ((B.to i u).hd.le (fG.O Ej)) U c').aO λz m6⟨O,l,e,Y,q,v⟩=>⟨L.fq (v.fz _),O,e,?_⟩;subst q;refine(fF (Y.le fG) t).aO λz o⟨b,e,I,g⟩=>⟨(L.fz (v.fz [])).fq (g.fz _),b,e,λan=>?_,λag=>⟨aw,bG λj=>by rw[I.2 j]at ag;exact absurd ag cH,(u.ext v).ext g,(i.bZ v).bZ g⟩⟩;have j:=(i.bZ v).bZ g;exact⟨cH,V,T,A0 j,R,bu hh,(u.ext v).ext g,j⟩
  rintro N r ⟨H,h2,r8,W⟩;let⟨z3,ay,zz⟩:=Vs d a.gp.ds t h5 N H h2;have c8:=B.to W r8;have L8:=K.fz W;have F8:Fz [f] ap r:=(u3.fz _).O W;have z8:=W.aP;have aA:=F.aP;have z2:=x2.aP;intro m9;obtain⟨x9,s9⟩:=pu m9;have g9:GE (m.size::p) r m9 (.mk r.size 0 0 0) []:=by grind [Gr.bI]
  clear_value m9;refine(fS (e:=[f,r.size]) (c8.hd.le (x9.dg bO)) U N).aO λz ao⟨O,l,e,Y,q,ac⟩=>⟨(L8.fz (x9.fz [])).fq (ac.fz _),O,e,?_⟩;subst q;have ax:=Y.aS;refine gP (n:=(cW d N).length) V (λj s M=>∃l,GE (m.size::p) r M s l/\l.length=j/\(∀e∈l,SmQ d X 1 e)/\Rd f G (A+1+5*j) M/\Fz [f] r M/\Fz [f,r.size] ao M/\(s.bq=r.size\/ao.size<=s.bq)) ⟨[],g9.ext DA.aO ac,rfl,bO,(r8.ext x9).ext ac,((x9.O ac).fz _),nK,bu rfl⟩ ?_;rintro j s M ar μ hj ⟨l,C,az,Z,Q,o,ad,hs⟩ ak
  have LM:=L8.fz o;refine dit (λh=>?_) λh=>?_
  .rcases hB with⟨ai,_,_⟩|⟨ih,e1,e2⟩
   .have:=zz ai;omega
   let⟨y,w⟩:=dY (cW d N) j;refine⟨V,V,y,(gV.1 ((Y.le (ad.eU λ_ h=>h)).D w)).2,?_⟩;exact XP.nA (ih y (ay y (aZ w)) (s.bq::m.size::p) f (A+1+5*j) G al aq M (dC (λe g=>by have:=ae e g;have:=o.aP;have:=F.aP;omega) bW C.cD.2) (by simp[aa]) (c8.to o Q) V) C o L8 r8 (by simp[aa]) V λe aF M' g g' r' f' am aC=>
    ak V _ _ ⟨_,g',fj,λe' ah=>by rcases bR.1 ah with h|h;exact Z e' h;simp at h;subst h;exact g,r'.aO V,f',adI ad hs am,oh ad.aP⟩
  .have au:∀e∈m.size::p,e<r.size:=λe g=>by have:=ae e g;omega
   exact XP.pU (qH Q (C.cz DA.aO au cH V) 6 N) LM (F8.O o) a.rd V (λe g=>g▸Xs (bu rfl) Z cG) cG
 .refine(Cu (b:=[f]) cG (B.hd.le fG) U (tD.le fG B.hp) (oh a.gp.pF) t).aO λz m4⟨O,l,e,gl,Z,r⟩=>⟨K.fq (r.fz _),O,e,?_⟩;have ad:IR f m4 O l:=by grind [GI.cz,GC.rd,Rd.lt,GC.gp,GP.pF]
  have aI:=ad.aS;have W:=B.ext r;have N:=K.fz (r.fz []);have u4:=u3.O r;have z4:=r.aP;have z3:=F.aP;refine⟨λb M=>(b=true->0<t/\0<O.len)/\M=m4,⟨λh=>⟨λT=>by simp only[bh]at h T;omega,rfl⟩,λh=>⟨bO,rfl⟩⟩,?_⟩;rintro b _ ⟨I,rfl⟩;refine⟨λan=>?_,λag=>?_⟩
  .let⟨R,aH⟩:=I an;refine(dW W.rd V O.len).aO λz x⟨D,e,k0,k2,u,i⟩=>⟨N.fq i,D,e,k0,V,?_⟩;let⟨y,w⟩:=dY l D.toNat;obtain⟨fi,q,rfl,T,aL,aB⟩:=Z.1 y (aZ w);let⟨dd,aw,au,ay,aD⟩:=aB R;have ai:=Vq d a.gp.ds dd aw au _ (a.gp.eN q (aZ T)) ay aD;have aM:q.aX.length<=3:=(AW _ (a.gp.eN q (aZ T))).1;have Y:=W.to i u;have L:=N.fz i;let⟨ps,aj,e0,e1⟩:=Y.hp.D T;have aJ:=aj.aS;have ax:=bA T;have aK:=Y.hp.aS;refine⟨_,(gV.1 ((ad.le (fh i)).D w)).2,V,V,ps,(gV.1 e0).2,?_⟩;intro m6;have v:=px m6;have g6:GE (m.size::p) x m6 (.mk x.size 0 0 0) []:=by grind [Gr.bI]
   clear_value m6;have z5:=i.aP;have ac:∀e∈m.size::p,e<x.size:=λe g=>by have:=ae e g;omega
   have aN:¬Lo t\/(Lo t/\0<t):=by grind [Lo]
   have hd:=WG d a.gp.ds;rcases hB with⟨aA,_,_⟩|⟨ih,e2,e3⟩
   .exfalso;rcases aA with h|h|h
    .omega
    .subst h;omega
    .subst h;omega
   refine gP (n:=q.aX.length -1) V (λj s M=>∃l,GE (m.size::p) x M s l/\l.length=j/\(∀e∈l,SmQ d X 1 e)/\Rd f G (A+1+5*j) M/\Fz [f] x M) ⟨[],g6,rfl,bO,u.ext v,v.fz _⟩ ?_;rintro j s M ar μ hj ⟨l',C,az,ao,Q,o⟩ ak
   have ew:eR ((j:Int)+1)=j+1:=by grind [dt]
   refine⟨λh=>?_,λh=>?_⟩
   .simp only[ew,bh]at h;let⟨y,w⟩:=dY q.aX j;have aE:y∈q.aX.dropLast:=cX.2 ⟨j,by rw[List.getElem?_dropLast,ba V];exact w⟩;refine⟨V,V,y,(gV.1 ((aj.le (fh o)).D w)).2,?_⟩;exact XP.nA (ih y (ai y aE) (s.bq::m.size::p) f (A+1+5*j) G al aq M (dC (λe g=>Xm (ac e g) o.aP) bW C.cD.2) (by simp[aa]) (Y.to o Q) V) C o L u (by simp[aa]) V λe aF M' g g' r' f' am aC=>
     ak V _ _ ⟨_,g',fj,λe' ah=>by rcases bR.1 ah with h|h;exact ao e' h;simp at h;subst h;exact g,r'.aO V,f'⟩
   .simp only[ew,dF]at h;exact XP.pU (qH Q (C.cz DA.aO ac cH V) 10 _) (L.fz o) (((u4.fz _).O i).O o) a.rd V (λe g=>g▸Xs (bG rfl) ao V) V
  .refine(Fo W.rd cG).aO λz x⟨D,e,u,i⟩=>⟨N.fq i,D,e,?_⟩;exact XP.pU (P:=A+4) ((ET (m.size::p) D x).aO λz v⟨o,e,H,h2,j,h⟩=>⟨o,e,H,h2,j,u.ext h,h.fz _⟩) (N.fz i) ((u4.fz _).O i) a.rd V (λe g=>g▸⟨λh=>.pS _,by rw[Ex.Yf];rcases hB with⟨_,e,_⟩|⟨_,e,_⟩<;>simp[e]⟩) cG
end
section
variable{g:Nat}{t:Int}
def _root_.Go.Vc.VH{σ:Type}(m:g<=9223372036854775807)(j:1<=g){a:E}{f:σ}{e:(σ->Int->E->Prop)->(σ->Int->E->Nat)->σ->Int->E->Prop}(Q:Nat->σ->E->Prop)(h:Q 1 f a)
 (l:∀(k:Nat)(s:σ)(b:E)(I:σ->Int->E->Prop)(μ:σ->Int->E->Nat),1<=k->k<=g->Q k s b->
  (k<g->∀d c,Q (k+1) d c->I d (eR ((k:Int)+1)) c/\μ d (eR ((k:Int)+1)) c<μ s k b)->e I μ s k b):
 ∃(I:σ->Int->E->Prop)(μ:σ->Int->E->Nat),I f 1 a/\∀s i b,I s i b->e I μ s i b:=by
 refine⟨λs i c=>∃k:Nat,i=k/\1<=k/\k<=g/\Q k s c,λ_ i _=>(g -i).toNat,⟨1,rfl,bW,j,h⟩,?_⟩
 grind [nQ,PB]
def _root_.Go.Vc.adG(j:g<=9223372036854775807)(f:1<=g){a:E}{d:(Int->E->Prop)->(Int->E->Nat)->Int->E->Prop}(Q:Nat->E->Prop)(e:Q 1 a)
 (h:∀(k:Nat)(b:E)(I:Int->E->Prop)(μ:Int->E->Nat),1<=k->k<=g->Q k b->
  (k<g->∀c,Q (k+1) c->I (eR ((k:Int)+1)) c/\μ (eR ((k:Int)+1)) c<μ k b)->d I μ k b):
 ∃(I:Int->E->Prop)(μ:Int->E->Nat),I 1 a/\∀i b,I i b->d I μ i b:=by
 refine⟨λi c=>∃k:Nat,i=k/\1<=k/\k<=g/\Q k c,λi _=>(g -i).toNat,⟨1,rfl,bW,f,e⟩,?_⟩
 grind [nQ,PB]
def Oj{f:af}{e:av}(hd:f∈vH)(a:Ty f t):acE 4 20 f e t:=by grind [Uz,Lo.ty]
def OE.x{f:Nat}{d:ap}{c:ad}{b P:Nat}{h:N}{a:E}{Q:Ex->Prop}(j:OE f d a c Q)(n:Rd b h P a):bJ dN f d a (XP c b h a P Q):=
 j.aO λi p⟨o,g,k,l,m,e⟩=>⟨o,g,k,l,m,n.ext e,e.fz _⟩
variable{c:ad}{b P:Nat}{h d p j:N}{f:af}{e:av}{a:E}{i:ab}
def vz(hS:∀o∈c,o<a.size)(af:b∈c)(o:GC b h P d p f e a)(hP:P+22<=10^16)(hv:IR b a j i)(ai:i.length<=1000)(ht:Ty f t):
 bJ dN 323 [vp b 0,.agg #[d.v,p.v],j.v,vi t] a (XP c b h a (P+22) λg=>WX f e.length i.length g/\g.n<=4):=by
 apply NX (b,0)
 simp -zeta only[dU]
 intro k y
 let⟨A,hl⟩:=fN (a:=k) (c:=y) rfl rfl
 have s1:=pz k
 clear_value y
 have hr:=o.rd.lt
 have X:Lw b [k.size,a.size] y:=λL Z=>⟨hl L Z,by simp at Z;omega⟩
 have ae:∀g∈k.size::c,g<y.size:=dC hS A.aP (hl _ bO)
 have z2:=A.aP
 refine(KR (b:=[b]) (m:=y) fj ((hv.le fG).ext A) V t).aO λ_ T⟨r,ac,g,gl,ag,B⟩=>⟨X.fq (B.fz _),r,g,?_⟩
 have aa:IR b T r ac:=GI.cz gl fj V
 have F:=(o.ext A).ext B
 have D:=X.fz (B.fz [])
 have C:Fz [b] a T:=(A.O B).fz _
 have aj:=aa.aS
 have z3:=B.aP
 have rU:∀{Q:Nat}{M:E},GC b h Q d p f e M->Fz [b] a M->y.size<=M.size->Lw b [k.size,a.size] M->Q<=P+2->bJ dN 342 [vp b 0,.agg #[d.v,p.v],vi t] M λU n=>gL [k.size,a.size] M n/\∃s u:Int,∃w:N,U=.agg #[vi s,vi u,w.v]/\XP c b h a (P+22) (λg=>WX f e.length i.length g/\g.n<=4) (.agg #[vi s,vi u,w.v]) (aV n k.size 0 [.i s,.i u,.s w]):=λO R h1 I hq=>
  XP.pU (Oj o.gp.ds ht (k.size::c) b _ h d p _ (λg l=>oh (ae g l)) (by simp[af]) O V) I R o.rd V (λg l=>⟨l.1 _,l.2⟩) V
 have Z1:∀{Q:Nat}{M:E},GC b h Q d p f e M->Fz [b] a M->Fz [b] T M->Lw b [k.size,a.size] M->Q<=P+2->0<r.len->bJ dN 74 [vp b 0,vi (r.len:Int)] M λah n=>gL [k.size,a.size] M n/\∃J:Int,ah=vi J/\(0:Int)<=J/\J<(r.len:Int)/\∃ad:Int,aR n r.bq (r.off+J.toNat*1)=some (vi ad)/\
  bJ dN 322 [vi ad] n λU Y=>gL [k.size,a.size] n Y/\∃s u:Int,∃w:N,U=.agg #[vi s,vi u,w.v]/\XP c b h a (P+22) (λg=>WX f e.length i.length g/\g.n<=4) (.agg #[vi s,vi u,w.v]) (aV Y k.size 0 [.i s,.i u,.s w]):=λO R f3 I hq h0=>
  (dW O.rd V r.len).aO λ_ n⟨ab,g,k0,k1,r',H⟩=>by
   let⟨W,hy⟩:=dY ac ab.toNat;exact⟨I.fq H,ab,g,k0,V,W,(gV.1 ((aa.le (fh (f3.O H))).D hy)).2,XP.pU ((pC (k.size::c) W n).x r') (I.fz H) (R.O H) o.rd V (λg l=>l▸⟨.Z1 (ag.1 W (aZ hy)),by rw[Ex.Yf];simp⟩) V⟩
 refine⟨λx=>?_,λx=>rU F C z3 D V⟩
 simp only[bh]at x
 refine(dW F.rd V 6).aO λ_ m4⟨k1,g,_,_,r4,l⟩=>⟨D.fq l,k1,g,λx=>Z1 (F.to l r4) (C.O l) l (D.fz l) V V,λx=>?_⟩
 intro m5
 have z:=px m5
 have G:=(F.to l r4).ext z
 have K:=(D.fz l).fz (z.fz [])
 exact(tZ (v:=[]) (G.hd.le fG) o.dh (tD.le fG G.hp) (oh o.gp.pF) pN t).aO λ_ m6⟨L,g,q⟩=>⟨K.fq (q.fz _),L,g,λx=>Z1 (G.ext q) ((C.O l).bZ (z.O q)) (l.bZ (z.O q)) (K.fz (q.fz [])) V V,λx=>rU (G.ext q) ((C.O l).bZ (z.O q)) (by have:=l.aP;have:=z.aP;have:=q.aP;omega) (K.fz (q.fz [])) V⟩
def NH(hS:∀u∈c,u<a.size)(hd:dq a d f)(Z:eP f)(C:tD a p e)(Y:e.length<=1000)(W:1<=e.length)(t:Int):od 337 [.agg #[d.v,p.v],vi t] a c λg=>(∀y∈g,∃(m:Nat)(q:dP),y=m/\e[m]? =some q)/\g.length<=e.length:=by
 apply GG;simp -zeta only[dU];intro h E;have S:=px h;have A:∀u∈[a.size],u<h.size:=by simp[h]
 have U:GI c h E (.mk h.size 0 0 0) []:=GI.gD c h;have x2:=px E;clear_value E;clear_value h;have ag:=C.aS;refine VH (g:=e.length) V W (λr I M=>J h M/\∃g,GI c h M I g/\(∀y∈g,∃(m:Nat)(q:dP),y=m/\e[m]? =some q)/\g.length<=r) ⟨x2,[],U,bO,bO⟩ ?_;rintro r I M ac μ ae hk ⟨l,g,x,D,af⟩ R
 have K:=S.O l;refine⟨λO=>?_,λO=>⟨I,g,rfl,x.da (λ_ i=>i) S.aP,⟨D,V⟩,K⟩⟩;simp only[bh]at O;let⟨q,P⟩:=dY e r;let⟨ad,z,w,T⟩:=C.D P;have X:=z.aS;refine⟨V,V,_,K.aR T,?_⟩;refine gP (n:=q.aX.length) (X▸z.kA) (λ_ _ L=>J M L) di ?_;rintro aa ok s I2 μ2 hj b Q;have k:=K.O b;refine⟨V,V,_,k.aR w,λi=>⟨λ_=>?_,λ_=>Q (by simp only[bh]at i;omega) _ _ b⟩,λi=>⟨λ_=>?_,λ_=>R V _ _ ⟨l.O b,g,x.ext b,D,V⟩⟩⟩
 .simp only[bh]at i;let⟨y,hy⟩:=dY q.aX aa;have N:=(z.ext k).D hy;refine⟨V,V,_,k.aR w,V,V,y,N,?_⟩;intro F;have j:=px F;have G:∀{o H:Nat}{ab:Value},aR s o H=some ab->aR F o H=aR s o H:=λi=>by rw[j.aR i,i]
  have B:a.size<s.size:=cp (A _ bO) (l.O b).aP;refine⟨G N,G (k.aR w),bB (j.bC _ B) _,bB (j.bC _ B) _,bB (j.bC _ B) _,?_⟩;exact(tZ (v:=[]) (hd.le (k.O j).le) Z (tD.le (k.O j).le C) Y pN y).bK ((l.O b).O j) A λo m5 x5 _=>⟨_,rfl,Q V _ _ ((b.O j).O x5)⟩
 .intro F;refine GI.nA (x.ext b) ((l.O b).fz []) V λN L B o _ _=>⟨J.sK ((l.O b).cw _) o.ext A,R V _ _ ⟨o.ext,_,B,λH j=>?_,fj⟩⟩;rcases bR.1 j with j|j
  .exact D H j
  .simp at j;exact⟨r,q,j,P⟩
end
section
variable{l c:Int}{o:N}{j:ab}
def Cg(c:Int):Nat:=30*4^c.toNat
def yD(h:l<=c):Cg l<=Cg c:=Nat.mul_le_mul_left _ (Nat.pow_le_pow_right cH V)
def Vk(c:Int):30<=Cg c:=Nat.le_mul_of_pos_right _ (Nat.pow_pos cH)
def Wz(a:0<=l)(h:l+1<=c):4*Cg l<=Cg c:=by
 refine fA (ML ?_) (yD h);unfold Cg;rw[show(l+1).toNat=l.toNat+1 by omega,Nat.pow_succ];omega
def OD(g:af)(i:av)(c:Int):Prop:=∀(f:ad)(e P:Nat)(h d p k:N)(m:E)(v:ab)(t:Int),(∀a∈f,a<m.size)->e∈f->GC e h P d p g i m->P+Cg c<=10^16->IR e m k v->v.length+3*c.toNat<=1000->Ty g t->
 bJ dN 319 [vp e 0,.agg #[d.v,p.v],k.v,vi t,vi c] m (XP f e h m (P+Cg c) λa=>WX g i.length v.length a/\(c<=2->a.n<=4))
def XL(f:ad)(e:Nat)(h:N)(m:E)(P:Nat)(Q:ax->Prop)(v:Value)(a:E):Prop:=∃s l,v=s.v/\jc (dg f a) s l/\Q l/\Rd e h P a/\Fz [e] m a
def Pb{f:ad}{M:E}(o:∀c∈f,c<M.size):∀(l:List (Ex×N))(_:l.length<=1000)(_:∀x∈l,jc (dg f M) x.2 x.1.dm){a:ae}{n:Nat},a=l.flatMap (λx=>[.i x.1.op,.i x.1.cE,.s x.2])->n=l.length->
 GE f M (M.push (.cells (de a) dx)) (.mk M.size 0 n n) (l.map (·.1)):=by
 intro l m h a n q i
 refine Gr.jU (f:=l.map λx=>[.i x.1.op,.i x.1.cE,.s x.2]) DA.aO bW cG (by simp[i]) ⟨bO,λc p=>?_,λr c k e d=>?_⟩
 .grind
 .simp only[eu,jI]at e d
  obtain⟨x,g,rfl⟩:=e
  obtain⟨y,b,rfl⟩:=d
  rw[g]at b;simp at b;subst b
  have:=h x (aZ g)
  cases j:x.1 with
  |mk t n s=>rw[j]at this;exact DA.of this
variable{f L:ad}{e P:Nat}{h d p k:N}{g:af}{i:av}{m:E}{v:ab}
def Rb(z:0<=c)(ih:∀a,0<=a->a<=c->OD g i a)(G:∀s∈f,s<m.size)(I:e∈f)(s:GC e h P d p g i m)(hP:P+3*Cg c<=10^16)(Z:IR e m k v)(af:v.length+3*c.toNat<=1000)(ac:c<=1000)(J:IR e m o j)(h3:j.length<=3)(Y:∀u∈j,Ty g u):
 bJ dN 335 [vp e 0,.agg #[d.v,p.v],k.v,o.v,vi c] m (XL f e h m (P+3*Cg c) λl=>l.length=j.length/\∀b∈l,WX g i.length v.length b):=by
 apply Kz (e,0)
 simp -zeta only[dU]
 intro a B
 have C:=px a
 have hr:=s.rd.lt
 have O:Lw e [m.size] a:=by intro c z;simp[a]at z⊢;omega
 have U:GE f a B (.mk a.size 0 0 0) []:=by grind [Gr.bI]
 have N:=px B
 clear_value B
 clear_value a
 have D:=s.ext C
 have ae:=J.aS
 refine gP (n:=j.length) V (λr w M=>∃l,GE f a M w l/\l.length=r/\(∀b∈l,WX g i.length v.length b)/\Rd e h (P+r*Cg c) M/\Fz [e] a M) ⟨[],U,rfl,bO,by simpa using D.rd.ext N,N.fz _⟩ ?_
 rintro r w M ab μ hk ⟨l,y,ad,H,L,F⟩ aa
 have t:=(C.fz [e]).O F
 refine dit (λq=>?_) λq=>?_
 .let⟨u,K⟩:=dY j r
  let⟨Q,E⟩:=RT (d:=(o.len:Int)) z V
  rw[dt (b:=Int.tdiv c _) V V]
  have hm:=yD E
  have X:r*Cg c+Cg c<=3*Cg c:=by rw[<-Dw];exact fg _ V
  refine⟨V,V,u,(gV.1 ((J.le (fh t)).D K)).2,V,?_⟩
  exact XP.nA (ih _ Q E (w.bq::f) e _ h d p k M v u (dC G t.aP y.cD.2) (by simp[I]) (s.to t L) V (Z.le (fh t)) V (Y u (aZ K))) y F O D.rd I V λb ag M' A T r' S _ _=>
   aa V _ _ ⟨_,T,fj,λR W=>by rcases bR.1 W with q|q;exact H R q;simp at q;subst q;exact A.1,r'.aO cG,S⟩
 .have X:r*Cg c<=3*Cg c:=fg _ V
  exact⟨w,l,rfl,y.cz DA.aO (λb A=>C.lt (G b A)) cH V,⟨V,H⟩,L.aO V,t⟩
def DI{n F B:Nat}{q:E}{Q:Ex->Prop}{u cE:Int}(T:0<=c)(ih:∀a,0<=a->a<=c->OD g i a)(R:∀r∈n::f,r<m.size)(Y:e∈f)(r:GC e h P d p g i m)(K:P+3*Cg c<=10^16)(hv:IR e m k v)(ab:v.length+3*c.toNat<=1000)(U:c<=1000)(Z:IR e m o j)(I:j.length<=3)(aa:∀t∈j,Ty g t)
 (D:Lw e L m)(W:Fz [e] q m)(G:Rd e h F q)(X:q.size<=n)(O:∀l,l.length=j.length->(∀b∈l,WX g i.length v.length b)->Q (.mk u cE l))(M:P+3*Cg c<=B):
 bJ dN 335 [vp e 0,.agg #[d.v,p.v],k.v,o.v,vi c] m λw a=>gL L m a/\∃s:N,w=s.v/\
  bJ dN 320 [vi u,vi cE,s.v] a λw A=>gL L a A/\∃x y:Int,∃z:N,w=.agg #[vi x,vi y,z.v]/\XP f e h q B Q (.agg #[vi x,vi y,z.v]) (aV A n 0 [.i x,.i y,.s z]):=
 (Rb (f:=n::f) T ih R (by simp[Y]) r K hv ab U Z I aa).aO λ_ a⟨s,l,b,H,C,J,t⟩=>⟨D.fq t,s,b,XP.pU (qH J H u cE) (D.fz t) (W.O t) G X (λb V=>V▸O l C.1 C.2) M⟩
def NM(H:3<=c/\c<=100)(ih:∀j,0<=j->j<=c -1->OD g i j)(hS:∀q∈f,q<m.size)(W:e∈f)(q:GC e h P d p g i m)(hP:P+23+3*Cg (c -1)<=10^16)(hv:IR e m k v)(aB:v.length+3*c.toNat<=1000){ac:Int}(ht:Ty g ac):
 bJ dN 336 [vp e 0,.agg #[d.v,p.v],k.v,vi ac,vi c] m (XP f e h m (P+23+3*Cg (c -1)) (WX g i.length v.length)):=by
 apply GX (e,0)
 simp -zeta only[dU]
 intro r E Z
 let⟨x2,hl⟩:=fN (a:=r) (c:=E) rfl rfl
 have s1:=pz r
 have K:=px Z
 have hr:=q.rd.lt
 have z2:=x2.aP
 have am:bd (dg [e] Z) (.mk E.size 0 4 4) [1,1,3,4]:=by grind [bd.jU]
 clear_value Z
 clear_value E
 have L2:Lw e [r.size,m.size] E:=λc H=>⟨hl c H,by simp at H;omega⟩
 have aj:∀j∈r.size::f,j<E.size:=by grind [dC,J.aP]
 have c3:=(q.ext x2).ext K
 have L3:=L2.fz (K.fz [])
 have T:=q.dh
 refine(nX c3.rd V am bO).aO λ_ m4⟨I,j,hk,r4,C⟩=>⟨L3.fq C,I,j,?_⟩
 have L:=c3.to C r4
 have L4:=L3.fz C
 have au:=L.hd.aS
 have dl:=tE g q.gp.ds
 have ae:I∈[(1:Int),3,4]:=cG
 have lW:0<(cT g 1).length:=(WG g q.gp.ds).1
 refine⟨λl M=>l∈[(1:Int),3,4]/\l<=g.length/\0<(cT g l).length/\J m4 M,⟨λ_=>⟨cH,V,lW,di⟩,λR=>?_⟩,?_⟩
 .simp only[dF]at R
  refine(qG (L.hd.le fG) T I).aO λ_ m5⟨c,j,H,t⟩=>⟨L4.fq (t.fz _),c,j,λ_=>⟨cH,V,lW,t⟩,λo=>⟨ae,V,Vr g q.gp.ds I ae V λag hq s=>?_,t⟩⟩
  grind
 rintro l m5 ⟨ak,al,ap,t⟩
 have c5:=L.ext t
 have L5:=L4.fz (t.fz [])
 have F5:Fz [e] m m5:=(((x2.O K).fz _).O C).bZ t
 have k5:l∈[(0:Int),1,2,3,4]:=cG
 have hf:=DH g q.gp.ds
 have aq:=hf.2.1 l k5
 refine(ku (e:=[e]) cG (c5.hd.le fG) T l).aO λ_ m6⟨N,B,j,hc,ag,G⟩=>⟨L5.fq (G.fz _),N,j,?_⟩
 subst ag
 have c6:=c5.ext G
 have L6:=L5.fz (G.fz [])
 have F6:=F5.bZ G
 have ar:=hc.aS
 have z3:=K.aP;have z4:=C.aP;have z5:=t.aP;have z6:=G.aP
 have ad:∀j∈r.size::f,j<m6.size:=λj s=>by have:=aj j s;omega
 refine XP.bZ (vz (c:=r.size::f) ad (by simp[W]) c6 V (hv.le (fh F6)) V ⟨by simp at ak;omega,al⟩) L6 λs0 O F h7 q7 r7 D=>⟨_,_,_,rfl,?_⟩
 intro m8
 have x8:=px m8
 have z7:=D.aP
 have U:∀j∈r.size::f,j<F.size:=λj s=>by have:=ad j s;omega
 have g8:GE (r.size::f) F m8 (.mk F.size 0 1 1) [O]:=Pb U [(O,s0)] bO cG rfl rfl
 clear_value m8
 have L7:=L6.fz D
 have F7:=F6.O D
 refine gP (n:=(cT g l).length) V (λA aa M=>∃B,GE (r.size::f) F M aa (O::B)/\B.length=A/\(∀(X:Nat)(j:Ex)(y:Int),B[X]? =some j->(cT g l)[X]? =some y->WX g i.length (v.length+(cW g y).length) j)/\Rd e h (P+23+A*Cg (c -1)) M/\Fz [e] F M) ⟨[],g8,rfl,bO,by simpa using(r7.ext x8).aO V,x8.fz _⟩ ?_
 rintro A aa M ao μ hj ⟨B,Q,aA,hq,rM,z⟩ an
 have u:=L7.fz z
 have ax:A*Cg (c -1)<=3*Cg (c -1):=fg _ V
 refine dit (λR=>?_) λR=>?_
 .let⟨y,hy⟩:=dY (cT g l) A
  let⟨av,aw⟩:=hf.1 l k5 y (aZ hy)
  have aD:=Q.cD
  have cM:=(c6.to D r7).to z rM
  refine⟨V,V,y,(gV.1 ((hc.le (fh (D.O z))).D hy)).2,V,?_⟩
  refine(fS (e:=[e]) cM.hd T y).aO λ_ m9⟨f9,l9,j,h9,q9,o⟩=>⟨u.fq (o.fz _),f9,j,u.dz nK (o.fz _) bO,u.dz nK (o.fz _) bO,?_⟩
  subst q9
  refine(iy (S:=[e]) cG (hv.le (fh ((F7.O z).bZ o))) h9 V).aO λ_ af⟨ab,Y,j,ah,aE,w⟩=>⟨(u.fz (o.fz [])).fq (w.fz _),ab,j,u.dz (o.fz _) (w.fz _) bO,u.dz (o.fz _) (w.fz _) bO,?_⟩
  have ai:IR e af ab Y:=GI.cz ah cG cG
  let⟨d0,d1⟩:=RT (e:=c -2) (d:=(N.len:Int)) V V
  rw[dt (b:=c -2) V V,dt (b:=Int.tdiv _ _) V V]
  have hm:=yD (l:=Int.tdiv (c -2) N.len) (c:=c -1) V
  have ay:A*Cg (c -1)+Cg (c -1)<=3*Cg (c -1):=by rw[<-Dw];exact fg _ V
  have fT:=(z.bZ o).bZ w
  have az:Y.length=v.length+(cW g y).length:=cG
  refine XP.nA (ih _ d0 V (aa.bq::r.size::f) e _ h d p ab af Y ac (dC (λj s=>Xm (U j s) fT.aP) bW (Xm o.aP w.aP)) (by simp[W]) ((cM.ext o).ext w) V ai V ht) ((Q.ext DA.aO o).ext DA.aO w) fT L7 r7 (by simp[W]) cG λj aF M' s g' r' f' _ _=>
   an V _ _ ⟨B++[j],g',fj,λX e' y' hi aC=>?_,r'.aO cG,f'⟩
  grind [Nat.lt_or_ge,List.length,List.getElem?_append_left,List.getElem?_append_right,bA]
 .exact XP.pU (qH rM (Q.cz DA.aO U cH cG) 8 l) u (F7.O z) q.rd V (λj s=>s▸.mt q7.1 V V hq) V
end
section
variable{e L:ad}{c P:Nat}{g d p i:N}{f:af}{h:av}{m:E}{v:ab}
def NN{o:Int}(hb:3<=o/\o<=100)(ih:∀j,0<=j->j<=o -1->OD f h j)(hS:∀q∈e,q<m.size)(O:c∈e)(q:GC c g P d p f h m)(hP:P+24+3*Cg (o -1)<=10^16)(Q:IR c m i v)(aw:v.length+3*o.toNat<=1000){aa:Int}(ht:Ty f aa):
 bJ dN 338 [vp c 0,.agg #[d.v,p.v],i.v,vi aa,vi o] m (XP e c g m (P+24+3*Cg (o -1)) (WX f h.length v.length)):=by
 apply GY (c,0)
 simp -zeta only[dU]
 intro y W
 let⟨Z,K⟩:=fN (a:=y) (c:=W) rfl rfl
 have s1:=pz y
 clear_value W
 have hr:=q.rd.lt
 have L2:Lw c [y.size,m.size] W:=λo hb=>⟨K o hb,by simp at hb;omega⟩
 have al:∀j∈y.size::e,j<W.size:=dC hS Z.aP (K _ bO)
 have c2:=q.ext Z
 have ab:=q.dh
 have av:=q.hd.aS
 have dl:=tE f q.gp.ds
 have an:eR (o -2)=o -2:=iC
 have ah:eR (o -1)=o -1:=iC
 have pF:=q.gp.pF
 have ap:v.length+3*(o -2).toNat<=1000:=V
 have hm:=yD (l:=o -2) (c:=o -1) V
 have ar:P+24+Cg (o -2)<=10^16:=V
 refine⟨λM=>Rd c g (P+1) M/\Fz [c] W M,?_,?_⟩
 .refine(dW c2.rd V 4).aO λ_ m3⟨x,j,_,_,r3,U⟩=>⟨L2.fq U,x,j,λ_=>?_,λ_=>⟨r3,U⟩⟩
  refine adG (g:=f.length+1) V V (λ_ M=>Rd c g (P+1) M/\Fz [c] W M) ⟨r3,U⟩ ?_
  rintro T M am μ ao ha ⟨L,H⟩ ac
  have J:=c2.to H L
  have LM:=L2.fz H
  refine⟨λs=>?_,λs=>⟨L,H⟩⟩
  simp only[bh]at s
  have ea:eR ((T:Int) -1)=T -1:=iC
  rw[ea]
  refine(qG (J.hd.le fG) ab T).aO λ_ X⟨b4,j,ak,I⟩=>⟨LM.fq (I.fz _),b4,j,λh1=>?_,λ_=>ac V _ ⟨L.ext I,H.bZ I⟩⟩
  obtain⟨ag,_,hq,aq⟩:=ak.1 h1
  have R:f[((T:Int) -1).toNat]? =some ag:=by rw[<-hq];congr 1;omega
  obtain⟨_,_,g0,g1,_⟩:=J.hd.D R
  have D:=J.ext I
  have t:=LM.fz (I.fz [])
  have l:=H.bZ I
  refine⟨V,V,_,I.aR (gV.1 g1).2,λ_=>?_,λ_=>ac V _ ⟨L.ext I,l⟩⟩
  refine(tZ (D.hd.le fG) ab (tD.le fG D.hp) V ((Q.le (fh ((Z.fz _).O l))).le fG) T).aO λ_ w⟨b5,j,k⟩=>⟨t.fq (k.fz _),b5,j,λ_=>?_,λ_=>ac V _ ⟨(L.ext I).ext k,l.bZ k⟩⟩
  have F:=D.ext k
  have u:=t.fz (k.fz [])
  have f5:=l.bZ k
  have z5:=f5.aP
  have ae:∀j∈y.size::e,j<w.size:=λj G=>by have:=al j G;omega
  obtain⟨_,_,ad,_,_⟩:=F.hd.D R
  refine⟨V,V,_,(gV.1 ad).2,?_⟩
  refine XP.bZ (vz (c:=y.size::e) ae (by simp[O]) F V (Q.le (fh ((Z.fz _).O f5))) V ⟨V,V⟩) u λs6 e6 B h6 q6 r6 z=>⟨_,_,_,rfl,?_⟩
  have c6:=F.to z r6
  have A:=u.fz z
  obtain⟨_,_,aj,_,_⟩:=c6.hd.D R
  refine⟨by rw[(gV.1 aj).2,(gV.1 ad).2],u.dz nK z bO,u.dz nK z bO,u.dz nK z bO,?_⟩
  rw[an]
  have F6:=(Z.fz [c]).O (f5.O z)
  have af:∀j∈y.size::e,j<B.size:=λj G=>by have:=ae j G;have:=z.aP;omega
  refine XP.bZ (ih (o -2) V V (y.size::e) c (P+1+22) g d p i B v _ af (by simp[O]) c6 V (Q.le (fh F6)) ap ((DH f q.gp.ds).2.2 ag (aZ R))) A λs7 e7 C h7 q7 r7 r=>⟨_,_,_,rfl,?_⟩
  intro Y
  have x8:=px Y
  have ai:∀j∈y.size::e,j<C.size:=λj G=>by have:=af j G;have:=r.aP;omega
  have g8:GE (y.size::e) C Y (.mk C.size 0 2 2) [e6,e7]:=Pb ai [(e6,s6),(e7,s7)] bO (by simp;exact⟨jc.le (r.eU (by simp[O])) h6,h7⟩) rfl rfl
  clear_value Y
  exact XP.pU (qH (r7.ext x8) (g8.cz DA.aO ai cH bO) 11 0) ((A.fz r).fz (x8.fz [])) ((F6.O r).bZ x8) q.rd V (λj G=>G▸.iL cH (λs=>V) cH (λs=>V) (by simp;exact⟨q6.1,q7.1⟩)) V
 rintro M ⟨L,H⟩
 have J:=c2.to H L
 have LM:=L2.fz H
 have zM:=H.aP
 have FM:=(Z.fz [c]).O H
 refine(ku (e:=[c]) (by simp;exact L.lt) (J.hd.le fG) ab aa).aO λ_ m3⟨cs,ai,j,hc,ag,x3⟩=>⟨LM.fq (x3.fz _),cs,j,?_⟩
 subst ag
 have U:=J.ext x3
 have R:=LM.fz (x3.fz [])
 have I:=FM.bZ x3
 have z3:=x3.aP
 have au:=hc.aS
 have ad:∀{M:E},m3.size<=M.size->∀j∈y.size::e,j<M.size:=λs j G=>by have:=al j G;omega
 refine⟨λs=>?_,λs=>⟨λs=>XP.pU (vz (c:=y.size::e) (ad bW) (by simp[O]) U V (Q.le (fh I)) V ht) R I q.rd V (λj G=>G.1) V,λs=>?_⟩⟩
 .simp only[bh]at s
  refine(dW U.rd V cs.len).aO λ_ X⟨x,j,k0,k1,Y,l⟩=>⟨R.fq l,x,j,k0,V,?_⟩
  let⟨ac,hy⟩:=dY (cT f aa) x.toNat
  have ae:=(DH f q.gp.ds).1 aa (Ty.adF q.gp.ds ht) ac (aZ hy)
  have D:=U.to l Y
  have t:=R.fz l
  refine⟨ac,(gV.1 ((hc.le (fh l)).D hy)).2,?_⟩
  refine(fS (e:=[c]) D.hd ab ac).aO λ_ w⟨f5,l5,j,h5,q5,k⟩=>⟨t.fq (k.fz _),f5,j,t.dz nK (k.fz _) bO,t.dz nK (k.fz _) bO,?_⟩
  subst q5
  rw[ah]
  exact DI V ih (ad (Xm l.aP k.aP)) O (D.ext k) V (Q.le (fh ((I.O l).bZ k))) V V h5 ae.1 ae.2 (t.fz (k.fz [])) ((I.O l).bZ k) q.rd V (λai _ K=>.iL cH (λs=>V) cH (λs=>V) K) V
 .refine(dW U.rd V 3).aO λ_ X⟨x,j,k0,k1,Y,l⟩=>⟨R.fq l,x,j,λ_=>?_,λ_=>?_⟩
  .have D:=U.to l Y
   have t:=R.fz l
   have z4:=l.aP;have ao:=Y.lt
   intro w
   have k:=px w
   have ac:bd (dg [c] w) (.mk X.size 0 1 1) [0]:=bd.jU bE fj rfl rfl bO
   clear_value w
   have z5:=k.aP
   rw[ah]
   exact DI V ih (ad V) O (D.ext k) V (Q.le (fh ((I.O l).bZ k))) V V ac bO (by simp[q.gp.ty]) (t.fz (k.fz [])) ((I.O l).bZ k) q.rd V (λai _ K=>.iL cH (λs=>V) cH (λs=>V) K) V
  .have D:=U.to l Y
   have t:=R.fz l
   have F4:=I.O l
   have z4:=l.aP;have ao:=Y.lt
   have j7:∀{aq M:E}{T t0:Nat},GC c g (P+3) d p f h M->Fz [c] X M->bd (dg [c] M) (.mk t0 0 2 2) [0,0]->∀op:Int,op∈[(1:Int),2,3,4]->bJ dN 335 [vp c 0,.agg #[d.v,p.v],i.v,N.v (.mk t0 0 2 2),vi (o -1)] M λak M1=>gL [y.size,m.size] M M1/\∃am:N,ak=am.v/\
    bJ dN 320 [vi op,vi 0,am.v] M1 λak M2=>gL [y.size,m.size] M1 M2/\∃r0 r1:Int,∃r2:N,ak=.agg #[vi r0,vi r1,r2.v]/\XP e c g m (P+24+3*Cg (o -1)) (WX f h.length v.length) (.agg #[vi r0,vi r1,r2.v]) (aV M2 y.size 0 [.i r0,.i r1,.s r2]):=λJ ac s op ae=>
    DI V ih (ad (oh ac.aP)) O J V (Q.le (fh (F4.O ac))) V V s bO (by simp[q.gp.ty]) (t.fz ac) (F4.O ac) q.rd V (λai _ K=>.iL (by simp at ae;omega) (λs=>by simp at ae;omega) (by simp at ae;omega) (λs=>by simp at ae;omega) K) V
   rw[ah]
   refine⟨?_,?_⟩
   .intro w
    have k:=px w
    have af:bd (dg [c] w) (.mk X.size 0 4 4) [1,2,3,4]:=bd.jU bE fj rfl rfl bO
    clear_value w
    have F:=D.ext k
    have u:=t.fz (k.fz [])
    have z5:=k.aP
    refine⟨t.dz nK (k.fz _) bO,t.dz nK (k.fz _) bO,?_,?_⟩
    .refine(nX F.rd V af bO).aO λ_ B⟨x,j,hk,r6,z⟩=>⟨u.fq z,x,j,u.dz nK z bO,u.dz nK z bO,?_⟩
     intro C
     have x7:=px C
     have aj:bd (dg [c] C) (.mk B.size 0 2 2) [0,0]:=bd.jU bE (by simp;exact r6.lt) rfl rfl bO
     clear_value C
     have A:=u.fz z
     exact⟨A.dz nK (x7.fz _) bO,A.dz nK (x7.fz _) bO,j7 (aq:=C) (T:=0) ((F.to z r6).ext x7) (((k.fz _).O z).bZ x7) aj x hk⟩
    .intro B
     have z:=px B
     have aj:bd (dg [c] B) (.mk w.size 0 2 2) [0,0]:=bd.jU bE fj rfl rfl bO
     clear_value B
     have A:=u.fz (z.fz [])
     refine⟨u.dz nK (z.fz _) bO,u.dz nK (z.fz _) bO,?_⟩
     refine(nX (F.ext z).rd V (af.le (fh (z.fz _))) bO).aO λ_ C⟨x,j,hk,r7,r⟩=>⟨A.fq r,x,j,A.dz nK r bO,A.dz nK r bO,j7 (aq:=C) (T:=0) ((F.ext z).to r r7) (((k.O z).fz _).O r) (aj.le (fh r)) x hk⟩
   .intro w
    have k:=px w
    have af:bd (dg [c] w) (.mk X.size 0 2 2) [0,0]:=bd.jU bE fj rfl rfl bO
    clear_value w
    have F:=D.ext k
    have u:=t.fz (k.fz [])
    have z5:=k.aP
    refine⟨t.dz nK (k.fz _) bO,t.dz nK (k.fz _) bO,?_⟩
    intro B
    have z:=px B
    have aj:bd (dg [c] B) (.mk w.size 0 4 4) [1,2,3,4]:=bd.jU bE fj rfl rfl bO
    clear_value B
    have A:=u.fz (z.fz [])
    refine⟨u.dz nK (z.fz _) bO,u.dz nK (z.fz _) bO,?_⟩
    refine(nX (F.ext z).rd V aj bO).aO λ_ C⟨x,j,hk,r7,r⟩=>⟨A.fq r,x,j,A.dz nK r bO,A.dz nK r bO,j7 (aq:=C) (T:=0) ((F.ext z).to r r7) (((k.O z).fz _).O r) ((af.le (fh (z.fz _))).le (fh r)) x hk⟩
end
section
variable{e:Int}
def acP{f:af}{h:av}(hb:0<=e/\e<=100)(ih:∀l,0<=l->l<=e -1->OD f h l):OD f h e:=by
 intro g c P j d p k i v D hS C s hP O aB L;apply Qk (c,0);simp -zeta only[dU];intro r ab;let⟨x2,hl⟩:=fN (a:=r) (c:=ab) rfl rfl;have s1:=pz r;clear_value ab;have hr:=s.rd.lt;have z2:=x2.aP;have L2:Lw c [r.size,i.size] ab:=λe hb=>⟨hl e hb,by simp at hb;omega⟩;have K:∀{l:E},ab.size<=l.size->∀m∈r.size::g,m<l.size:=λaa m he=>by have:=dC hS x2.aP (hl r.size bO) m he;omega
 have c2:=s.ext x2;have al:=s.dh;have pF:=s.gp.pF;have iT:=s.gp.iT;have ay:=Vk e;have ao:∀{ak:Nat}{l:E},GC c j ak d p f h l->Fz [c] ab l->ak+22<=P+Cg e->bJ dN 323 [vp c 0,.agg #[d.v,p.v],k.v,vi D] l λae M2=>gL [r.size,i.size] l M2/\∃W X:Int,∃Y:N,ae=.agg #[vi W,vi X,Y.v]/\XP g c j i (P+Cg e) (λm=>WX f h.length v.length m/\(e<=2->m.n<=4)) (.agg #[vi W,vi X,Y.v]) (aV M2 r.size 0 [.i W,.i X,.s Y]):=λcM o hq=>
  XP.pU (vz (c:=r.size::g) (K o.aP) (by simp[C]) cM V (O.le (fh ((x2.fz _).O o))) V L) (L2.fz o) ((x2.fz _).O o) s.rd V (λm he=>⟨he.1,λ_=>he.2⟩) hq
 refine⟨λ_=>ao c2 nK V,λh3=>?_⟩;simp only[dF]at h3;have az:=Wz (l:=e -1) (c:=e) V V;have aA:=Wz (l:=e -2) (c:=e -1) V V;have ax:=Vk (e -2);have am:eR (e -1)=e -1:=by grind [dt]
 have hQ:∀m,WX f h.length v.length m->WX f h.length v.length m/\(e<=2->m.n<=4):=cG;refine(dW c2.rd V 12).aO λ_ m3⟨ac,m,k0,k1,r3,f3⟩=>⟨L2.fq f3,ac,m,?_⟩;have B:=c2.to f3 r3;have Q:=L2.fz f3;have A:=(x2.fz [c]).O f3;have z3:=f3.aP;have aq:=K z3;have ap:∀{l:E},J m3 l->bJ dN 338 [vp c 0,.agg #[d.v,p.v],k.v,vi D,vi e] l λae M2=>gL [r.size,i.size] l M2/\∃W X:Int,∃Y:N,ae=.agg #[vi W,vi X,Y.v]/\XP g c j i (P+Cg e) (λm=>WX f h.length v.length m/\(e<=2->m.n<=4)) (.agg #[vi W,vi X,Y.v]) (aV M2 r.size 0 [.i W,.i X,.s Y]):=λG=>
  XP.pU (NN (e:=r.size::g) ⟨V,V⟩ ih (K (oh G.aP)) (by simp[C]) (B.ext G) V (O.le (fh (A.bZ G))) V L) (Q.fz (G.fz [])) (A.bZ G) s.rd V hQ V
 refine⟨λ_=>ao B f3 V,λ_=>⟨λ_=>?_,λ_=>⟨λ_=>?_,λ_=>⟨λ_=>XP.pU (NM (f:=r.size::g) ⟨V,V⟩ ih aq (by simp[C]) B V (O.le (fh A)) V L) Q A s.rd V hQ V,λ_=>⟨λ_=>?_,λ_=>ap di⟩⟩⟩⟩⟩
 .refine(P9 r3 V B.hd al B.hp V (O.le (fh A))).aO λ_ u⟨F,m,hu,r4,f4⟩=>⟨Q.fq f4,F,m,cH,cH,?_⟩;have R:=B.to f4 r4;have y:=Q.fz f4;have F4:=A.O f4;have z4:=f4.aP;have ar:Ty f F:=by have:=tE f s.gp.ds;unfold Ty;omega
  let⟨d0,d1⟩:=RT (e:=e) (d:=2) V V;have d2:Int.tdiv e 2<=e -1:=by grind [Int.tdiv_eq_ediv_of_nonneg]
  have d3:Int.tdiv e 2+Int.tdiv e 2<=e:=by grind [Int.tdiv_eq_ediv_of_nonneg]
  rw[dt (b:=Int.tdiv e 2) V V];generalize Int.tdiv e 2=h2 at*;have hm:=yD d2;have H:∀{l M':E},Fz [c] u l->Fz [c] l M'->aR M' i.size 0=aR l i.size 0:=by grind [Lw.dz]
  have I:∀{l M':E},Fz [c] u l->Fz [c] l M'->aR M' i.size 1=aR l i.size 1:=λo f'=>y.dz o f' bO;have ag:=λ(l:E)(cM:GC c j (P+2) d p f h l)(o:Fz [c] u l)=>ih h2 d0 d2 (r.size::g) c (P+2) j d p k l v F (K (oh o.aP)) (by simp[C]) cM V (O.le (fh (F4.O o))) V ar;have ah:=λ(l:E)(ad:N)(cM:GC c j (P+2+Cg h2) d p f h l)(o:Fz [c] u l)(hw:IR c l ad (v++[F]))=>ih h2 d0 d2 (r.size::g) c (P+2+Cg h2) j d p ad l (v++[F]) D (K (oh o.aP)) (by simp[C]) cM V hw cG L;have ai:=λ(l:E)(ad:N)(o:Fz [c] u l)(hR:c<l.size)(aa:IR c l ad [F])=>iy (S:=[c]) cG (O.le (fh (F4.O o))) aa cG;have aj:=λ(M0 l:E)(Z e2:Ex)(t1 t2:N)(o:Fz [c] u l)(hR:Rd c j (P+2+Cg h2+Cg h2) l)(h1:jc (dg (r.size::g) l) t1 Z.dm)(aw:jc (dg (r.size::g) l) t2 e2.dm)(w1:WX f h.length v.length Z)(w2:WX f h.length (v++[F]).length e2)=>
   have G:=J.push l (.cells (de [.i Z.op,.i Z.cE,.s t1,.i e2.op,.i e2.cE,.s t2]) dx)
   have an:=K (l:=l) (oh o.aP)
   XP.pU (S:=g) (Q':=λm=>WX f h.length v.length m/\(e<=2->m.n<=4)) (qH (hR.ext G) ((Pb an [(Z,t1),(e2,t2)] bO cG rfl rfl).cz DA.aO an cH bO) 13 0) ((y.fz o).fz (G.fz [])) ((F4.O o).bZ G) s.rd V (λm he=>he▸hQ _ (.lt w1 cG)) (i:=P+Cg e) V
  refine⟨?_,?_⟩
  .refine XP.bZ (ag u R nK) y λs5 T U h5 q5 r5 t=>⟨_,_,_,rfl,H nK t,I nK t,?_⟩;intro m6;have z:=px m6;have au:bd (dg [c] m6) (.mk U.size 0 1 1) [F]:=bd.jU bE cG rfl rfl bO;clear_value m6;have w:=t.bZ z;refine⟨H t (z.fz _),I t (z.fz _),H t (z.fz _),I t (z.fz _),?_⟩;refine(ai m6 _ w (r5.ext z).lt au).aO λ_ m7⟨s7,l7,m,g7,q7,q⟩=>⟨(y.fz w).fq (q.fz _),s7,m,H w (q.fz _),I w (q.fz _),?_⟩;subst q7;refine XP.bZ (ah m7 s7 (((R.to t r5).ext z).ext q) (w.bZ q) (GI.cz g7 cG cG)) ((y.fz w).fz (q.fz [])) λs8 e8 m8 h8 q8 r8 f8=>⟨_,_,_,rfl,?_⟩;exact aj m8 m8 T e8 s5 s8 ((w.bZ q).O f8) r8 (jc.le (((z.O q).fz [c]).O f8|>.eU (by simp[C])) h5) h8 q5.1 q8.1
  .intro U;have z:=px U;have au:bd (dg [c] U) (.mk u.size 0 1 1) [F]:=bd.jU bE cG rfl rfl bO;clear_value U;refine⟨H nK (z.fz _),I nK (z.fz _),H nK (z.fz _),I nK (z.fz _),?_⟩;refine XP.bZ (ag U (R.ext z) (z.fz _)) (y.fz (z.fz [])) λs6 e6 m6 h6 q6 r6 w=>⟨_,_,_,rfl,H (z.fz _) w,I (z.fz _) w,?_⟩;have T:=(z.fz [c]).O w;refine(ai m6 _ T r6.lt (au.le (fh w))).aO λ_ m7⟨s7,l7,m,g7,q7,q⟩=>⟨(y.fz T).fq (q.fz _),s7,m,H T (q.fz _),I T (q.fz _),?_⟩;subst q7;refine XP.bZ (ah m7 s7 (((R.ext z).to w r6).ext q) (T.bZ q) (GI.cz g7 cG cG)) ((y.fz T).fz (q.fz [])) λs8 e8 m8 h8 q8 r8 f8=>⟨_,_,_,rfl,?_⟩;exact aj m8 m8 e6 e8 s6 s8 ((T.bZ q).O f8) r8 (jc.le ((q.fz [c]).O f8|>.eU (by simp[C])) h6) h8 q6.1 q8.1
 .intro u;have q:=px u;have z:bd (dg [c] u) (.mk m3.size 0 3 3) [0,D,D]:=by grind [bd.jU,Rd.lt]
  clear_value u;rw[am];exact DI V ih (K (oh q.aP)) C (B.ext q) V (O.le (fh (A.bZ q))) V V z bO (by simp;exact⟨s.gp.ty cH cH,L⟩) (Q.fz (q.fz [])) (A.bZ q) s.rd V (λw hl hw=>hQ _ (.iL cH (λ_=>by simpa using hl) cH (λaa=>V) hw)) V
 .refine(NH (c:=[c]) cG (B.hd.le fG) al (tD.le fG B.hp) V iT D).aO λ_ u⟨F,w,m,gl,hq,q⟩=>⟨Q.fq (q.fz _),F,m,λaa=>?_,λ_=>ap q⟩;simp only[bh]at aa;have ad:IR c u F w:=by grind [GI.cz,Rd.lt]
  have an:=ad.aS;have R:=B.ext q;have y:=Q.fz (q.fz []);refine(dW R.rd V F.len).aO λ_ U⟨ac,m,k0,k1,r5,t⟩=>⟨y.fq t,ac,m,k0,V,?_⟩;let⟨ai,hy⟩:=dY w ac.toNat;obtain⟨fi,ah,rfl,I⟩:=hq.1 ai (aZ hy);have z:=R.to t r5;let⟨ps,ag,e0,Z⟩:=z.hp.D I;have aj:=bA I;have ar:=z.hp.aS;have T:=AW _ (s.gp.eN ah (aZ I));have H:=(q.fz [c]).O t;refine⟨_,(gV.1 ((ad.le (fh t)).D hy)).2,V,V,ps,(gV.1 e0).2,?_⟩;rw[am];exact DI V ih (K (oh H.aP)) C z V (O.le (fh (A.O H))) V V ag T.1 (λD L=>s.gp.ty (T.2.1 D L).1 (T.2.1 D L).2) (y.fz t) (A.O H) s.rd V (λw _ hw=>hQ _ (.iL cH (λaa=>V) cH (λ_=>⟨V,V⟩) hw)) V
def VK{f:af}{h:av}:∀(n:Nat)(e:Int),e.toNat=n->0<=e/\e<=100->OD f h e:=λn=>by
 induction n using Nat.strongRecOn with
 |ind n d=>exactλe i b=>acP b λa c g=>d a.toNat V a rfl ⟨c,V⟩
variable{g:ad}{c P:Nat}{j d p k:N}{f:af}{h:av}{i:E}{v:ab}
def Fit(f:af)(b a:Nat)(e:Ex):Prop:=WX f b a e/\e.n<=30
def Qi(hS:∀y∈g,y<i.size)(ab:c∈g)(y:GC c j P d p f h i)(hP:P+20*Cg 18<=10^16)(hv:IR c i k v)(ag:v.length<=100){S:Int}(ht:Ty f S)(t:0<=e/\e<=18):
 bJ dN 292 [vp c 0,.agg #[d.v,p.v],k.v,vi S,vi e] i (XP g c j i (P+20*Cg 18) (Fit f h.length v.length)):=by
 apply IY (c,0)
 simp -zeta only[dU]
 intro u B
 let⟨C,hl⟩:=fN (a:=u) (c:=B) rfl rfl
 have s1:=pz u
 clear_value B
 have hr:=y.rd.lt
 have z2:=C.aP
 have O:Lw c [u.size,i.size] B:=λe t=>⟨hl e t,by simp at t;omega⟩
 have aa:∀{M:E},B.size<=M.size->∀l∈u.size::g,l<M.size:=λR l X=>by have:=dC hS C.aP (hl u.size bO) l X;omega
 have U:=y.ext C
 have hm:=yD t.2
 refine XP.bZ (VK _ e rfl ⟨t.1,V⟩ (u.size::g) c P j d p k B v S (aa bW) (by simp[ab]) U V (hv.le (fh (C.fz _))) V ht) O λs3 F s h3 q3 r3 f3=>⟨_,_,_,rfl,?_⟩
 intro m4 H
 obtain⟨T,s5⟩:=pv H
 have B5:dJ H s.size dx [.i F.op,.i F.cE,.s s3]:=dJ.aV (m:=m4) (o:=0) (r:=[.i F.op,.i F.cE,.s s3]) (dJ.push s _ _)
 clear_value H
 have z3:=f3.aP
 have ad:∀l∈s.size::u.size::g,l<H.size:=dC (aa z3) T.aP V
 refine⟨λq M=>∃(J:N)(l:Ex)(w:Nat),0<=q/\q<=18/\q.toNat<=w/\w<=18/\dJ M s.size dx [.i l.op,.i l.cE,.s J]/\jc (dg (s.size::u.size::g) M) J l.dm/\WX f h.length v.length l/\(q<=2->l.n<=4)/\Rd c j (P+(19 -w)*Cg 18) M/\Fz [c] B M/\H.size<=M.size,λq _=>q.toNat,⟨s3,F,18,t.1,t.2,V,bW,B5,jc.le (T.dg λe t=>(aY.1 t).elim (λR=>bG V) bu) h3,q3.1,q3.2,(r3.ext T).aO V,(f3.bZ T),bW⟩,?_⟩
 rintro q M ⟨J,l,w,b0,b1,bk,ah,K,hs,hw,hn,rM,fM,zM⟩
 refine⟨_,K.dz 0,_,K.dz 1,_,K.dz 2,?_⟩
 refine(Fc (jc.le fG hs)).aO λ_ I⟨n6,e6,q6,D⟩=>⟨(O.fz fM).fq (D.fz _),n6,e6,?_⟩
 have L:=K.ext D
 have r6:=rM.ext D
 have z:=fM.bZ D
 have z6:=D.aP
 have kc:(19 -w)*Cg 18+Cg 18<=20*Cg 18:=by rw[<-Dw];exact fg _ V
 have cC:l.n<=30->∃v0:Int,aR I s.size 0=some (vi v0)/\∃v1:Int,aR I s.size 1=some (vi v1)/\∃v2:N,aR I s.size 2=some v2.v/\XP g c j i (P+20*Cg 18) (Fit f h.length v.length) (.agg #[vi v0,vi v1,v2.v]) (aV I u.size 0 [.i v0,.i v1,.s v2]):=λac=>
  ⟨_,L.dz 0,_,L.dz 1,_,L.dz 2,J,l,rfl,jc.le (dQ bO λy W=>aW _ (aW _ W)) (jc.le D.eU hs),⟨hw,ac⟩,y.rd.aV (r6.aO V) ((C.fz _).O z) V 0 _,((C.fz _).O z).aV (bG V) _ _⟩
 refine⟨λR=>⟨λA=>?_,λA=>cC (by simp only[dF]at A;have:=hn V;omega)⟩,λR=>cC (by simp only[dF]at R;omega)⟩
 simp only[bh]at A
 let⟨d0,d1⟩:=RT (e:=q) (d:=2) b0 V
 have d2:Int.tdiv q 2<=q -1:=by rw[Z9 b0];omega
 rw[dt (b:=Int.tdiv q 2) V V]
 generalize Int.tdiv q 2=A at*
 have ae:=yD (l:=A) (c:=18) V
 refine⟨cH,?_⟩
 refine XP.bZ (VK _ A rfl ⟨d0,V⟩ (s.size::u.size::g) c _ j d p k I v S (λl X=>oh (ad l X)) (by simp[ab]) (U.to z r6) V (hv.le (fh ((C.fz _).O z))) V ht) (O.fz z) λs7 G Y h7 q7 r7 Q=>⟨_,_,_,rfl,?_⟩
 have af:c≠s.size:=V
 have B7:dJ Y s.size dx [.i l.op,.i l.cE,.s J]:=L.congr (Q.bC _ V fj)
 refine⟨B7.iQ bO,?_⟩
 intro Z
 have B8:dJ Z s.size dx [.i G.op,.i G.cE,.s s7]:=dJ.aV (m:=Y) (o:=0) (r:=[.i G.op,.i G.cE,.s s7]) B7
 have f8:Fz [c] B Z:=(z.O Q).aV (bG V) _ _
 have s8:Z.size=Y.size:=bD _ _ _ _
 have z7:=Q.aP
 refine⟨λe t=>cg _ _ _ _ (oh ((O e t).1)),⟨s7,G,w -1,d0,V,V,V,B8,jc.le (dQ bO λy W=>W) h7,q7.1,q7.2,?_,f8,V⟩,by show A.toNat<q.toNat;omega⟩
 refine U.rd.aV (r7.aO ?_) (z.O Q) V 0 _
 rw[show 19 -(w -1)=19 -w+1 by omega,Dw];omega
end
section
variable{l:ae}
@[grind cases] structure HX (S:ad) (ds:af) (nf a:Nat) (M:E) (s:N) (e:Ex):Prop where
 sl:jc (dg S M) s e.dm
 wx:WX ds nf a e
@[grind cases] structure Rs (rb:Nat) (bs:N) (m:E) (Q:Nat) (M:E):Prop where
 f:Fz [rb] m M
 r:Rd rb bs Q M
variable{S L:ad}{g Q t x k a j:Nat}{n d p s w:N}{i:af}{u:av}{q M c:E}{h:Ex}{v:ab}{K:Int->Int->N->E->Prop}
theorem HX.fz(b:HX S i j a M s h)(d:g∈S)(f:Fz [g] M c):HX S i j a c s h:=⟨jc.le (f.eU (by simp[d])) b.sl,b.wx⟩
def HX.ext(b:HX S i j a M s h)(x:J M c):HX S i j a c s h:=⟨jc.le x.eU b.sl,b.wx⟩
def HX.og(b:HX S i j a M s h)(x:J M c)(f:M.size<=k):HX (k::S) i j a c s h:=⟨jc.le (x.dg λe d=>(aY.1 d).elim (λb=>bG V) bu) b.sl,b.wx⟩
theorem HX.iG(b:HX (k::S) i j a M s h):HX S i j a M s h:=⟨jc.le (kO M λ_=>aW _) b.sl,b.wx⟩
def HX.cB(b:HX S i j a M s h)(c:k∈S){o:Nat}:HX S i j a (aV M k o l) s h:=⟨jc.le (dQ c λ_ b=>b) b.sl,b.wx⟩
def Rs.ext(h:Rs g n q Q M)(x:J M c):Rs g n q Q c:=⟨h.f.bZ x,h.r.ext x⟩
theorem Rs.to(h:Rs g n q Q M)(f:Fz [g] M c)(r:Rd g n t c):Rs g n q t c:=⟨h.f.O f,r⟩
theorem Rs.cB(h:Rs g n q Q M)(b:Rd g n x q)(a:q.size<=k)(o:Nat)(l:ae):Rs g n q Q (aV M k o l):=⟨h.f.aV (bG a) _ _,b.aV h.r h.f a o l⟩
theorem lw(h:g<q.size)(a:∀b∈L,q.size<=b/\b<M.size):Lw g L M:=λb c=>⟨(a b c).2,oh ((a b c).1)⟩
theorem kg(f:Fz [g] M c)(h:g<q.size)(a:q.size<=k/\k<M.size)(o:Nat):aR c k o=aR M k o:=by grind [bB,Fz.bC]
def kT{c a:E}{z:ae}{t:Nat}(d:c=M.push (.cells (de z) t))(f:a=aV c M.size 0 l)(g:l.length=z.length):J M a/\dJ a M.size t l/\a.size=M.size+1:=by
 subst d f;refine⟨(J.push M _).aV bW _ _,?_,by rw[bD];simp⟩;have h:=dJ.aV (m:=M.push (.cells (de z) t)) (b:=M.size) (e:=t) (l:=z) (o:=0) (r:=l) (dJ.push _ _ _);rwa[show jh z 0 l=l from by
  have h:=Bv [] l z V;rw[List.drop_of_length_le V]at h;simpa using h]at h
def XP.kk{f:Nat}{b:ap}{T:Ex->Prop}(m:bJ dN f b M (XP S g n M Q T))(o:Lw g L M)(p:∀s h c,jc (dg S c) s h.dm->T h->Rd g n Q c->Fz [g] M c->K h.op h.cE s c):bJ dN f b M λv c=>gL L M c/\∃e i:Int,∃j:N,v=.agg #[vi e,vi i,j.v]/\K e i j c:=
 XP.bZ m o λs h c a k l d=>⟨_,_,_,rfl,p s h c a k l d⟩
def AR(S:ad)(i:af)(j:Nat)(m:Lw g L M){n:Int}(p:0<=n/\n<(a:Int))(o:∀s c,HX S i j a c s (.mk 12 n [])->J M c->K 12 n s c):bJ dN 322 [vi n] M λv c=>gL L M c/\∃b d:Int,∃e:N,v=.agg #[vi b,vi d,e.v]/\K b d e c:=
 (pC S n M).aO λv c⟨s,h,f,k,l,x⟩=>⟨m.fq (x.fz _),by subst l;exact⟨_,_,_,f,o s c ⟨k,.Z1 p⟩ x⟩⟩
def MU(S:ad)(i:af)(j a:Nat)(m:Lw g L M)(n:Int)(o:∀s c,HX S i j a c s (.mk 0 n [])->J M c->K 0 n s c):bJ dN 287 [vi n] M λv c=>gL L M c/\∃b d:Int,∃e:N,v=.agg #[vi b,vi d,e.v]/\K b d e c:=
 (ET S n M).aO λv c⟨s,h,f,k,l,x⟩=>⟨m.fq (x.fz _),by subst l;exact⟨_,_,_,f,o s c ⟨k,.pS n⟩ x⟩⟩
def sZ(l:List (Ex×N))(d:l.length<=1000)(b:∀c∈S,c<M.size)(h:∀x∈l,jc (dg S M) x.2 x.1.dm){a:ae}{n:Nat}(c:a=l.flatMap λx=>[.i x.1.op,.i x.1.cE,.s x.2])(e:n=l.length):jc (dg S (M.push (.cells (de a) dx))) (.mk M.size 0 n n) (l.map (·.1)):=
 (Pb b l d h c e).cz DA.aO b cH cG
def mf{dm:ax}(k:jc (dg S M) s dm){b cE:Int}(q:WX i j a (.mk b cE dm))(o:Lw g L M)(p:∀s c,HX S i j a c s (.mk b cE dm)->J M c->K b cE s c):
 bJ dN 320 [vi b,vi cE,s.v] M λv c=>gL L M c/\∃d e:Int,∃f:N,v=.agg #[vi d,vi e,f.v]/\K d e f c:=
 (Nl k b cE).aO λv c⟨s,h,l,m,n,x⟩=>⟨o.fq (x.fz _),by subst n;exact⟨_,_,_,l,p s c ⟨m,q⟩ x⟩⟩
def JX(x:∀a∈S,a<M.size)(z:g∈S)(a:GC g n Q d p i u M)(C:Q+Cg 18<=10^16)(B:IR g M w v)(E:v.length<=100){t b:Int}(A:Ty i t)(e:0<=b/\b<=18)(r:Lw g L M)(y:∀h s c,HX S i u.length v.length c s h->Rd g n (Q+Cg 18) c->Fz [g] M c->K h.op h.cE s c):
 bJ dN 319 [vp g 0,.agg #[d.v,p.v],w.v,vi t,vi b] M λv c=>gL L M c/\∃f j:Int,∃k:N,v=.agg #[vi f,vi j,k.v]/\K f j k c:=
 have D:=yD e.2
 XP.kk (VK _ b rfl ⟨e.1,V⟩ S g Q n d p w M v t x z a V B V A) r λs h c l m o q=>y h s c ⟨l,m.1⟩ (o.aO V) q
end
section
def WX.lx{f:af}{b a:Nat}{n:Int}{dm:ax}(h:∀e∈dm,WX f b a e):WX f b a (.mk 6 n dm):=by grind [WX.iL]
variable{c:ad}{e P:Nat}{g d p:N}{f:af}{h:av}{b:E}
def Qm(f:af)(y:Nat)(hS:∀Y∈c,Y<b.size)(Z:e∈c)(R:Rd e g P b)(hP:P+100<=10^16)(ay:Int):bJ dN 321 [vp e 0,vi ay] b (XP c e g b (P+100) (WX f y 0)):=by
 apply Jd (e,0);simp -zeta only[dU];intro aB ag;have x2:J b ag:=by grind [J.push,J.O]
 have s2:ag.size=b.size+2:=cG;clear_value ag;have hr:=R.lt;have an:∀{h:E},ag.size<=h.size->∀Y∈b.size::c,Y<h.size:=by grind [dC]
 have W:Rs e g b P ag:=⟨x2.fz _,R.ext x2⟩;refine mf (S:=b.size::c) (a:=0) (i:=f) (j:=y) (g:=e) (dm:=[]) pN (.lx bO) (lw hr cG) λs3 m3 h3 x3=>?_;intro m4 H;let⟨x5,B5,z5⟩:=kT (M:=m3) (c:=m4) (a:=H) rfl rfl rfl;clear_value H;have z3:=x3.aP;have r5:=(W.ext x3).ext x5;refine⟨λ_=>?_,λ_=>?_⟩
 .intro m6;have x6:=px m6;clear_value m6;have z6:=x6.aP;refine mf (S:=b.size::c) (a:=0) (i:=f) (j:=y) (g:=e) (dm:=[]) pN (.lx bO) (lw hr cG) λL D h7 x7=>?_;intro m8 w;let⟨x9,B9,z9⟩:=kT (M:=D) (c:=m8) (a:=w) rfl rfl rfl;clear_value w;have z7:=x7.aP;have r9:=((r5.ext x6).ext x7).ext x9;have h9:=h7.ext x9;have G:∀{h A:E},w.size<=h.size->Fz [e] h A->∀i,aR A D.size i=aR h D.size i:=by grind [kg]
  have LW:∀{h:E},w.size<=h.size->Lw e [D.size,m3.size,b.size] h:=λz=>lw hr cG;have LK:∀{h:E}{p:Nat},w.size<=p->p<h.size->Lw e [p,D.size,m3.size,b.size] h:=λz Q=>lw hr cG;have hw:∀n:Int,WX f y 0 (.mk 6 3 [.mk 6 2 [],.mk 0 n [],.mk 6 2 []]):=λn=>.lx (by simp;exact⟨.lx bO,.pS n,.lx bO⟩);refine⟨λlW h=>∃F k,lW.2=0/\b.size<=lW.1/\dJ h lW.1 dx [.i k.op,.i k.cE,.s F]/\HX (b.size::c) f y 0 h F k/\HX (b.size::c) f y 0 h L (.mk 6 2 [])/\Rs e g b (P+1) h/\w.size<=h.size,?_,?_⟩
  .have j7:∀{p t0:Nat}{h:E}{n:Int},dJ h p dx [.i 0,.i 0,.s .nil]->w.size<=p->jc (dg (p::b.size::c) h) (.mk t0 0 3 3) [.mk 6 2 [],.mk 0 n [],.mk 6 2 []]->Rs e g b (P+1) h->HX (p::b.size::c) f y 0 h L (.mk 6 2 [])->
    bJ dN 320 [vi 6,vi 3,N.v (.mk t0 0 3 3)] h λaz A=>gL [p,D.size,m3.size,b.size] h A/\∃r0 r1:Int,∃W:N,az=.agg #[vi r0,vi r1,W.v]/\∃F k,((p,0):aj).2=0/\b.size<=((p,0):aj).1/\dJ (aV A p 0 [.i r0,.i r1,.s W]) ((p,0):aj).1 dx [.i k.op,.i k.cE,.s F]/\HX (b.size::c) f y 0 (aV A p 0 [.i r0,.i r1,.s W]) F k/\HX (b.size::c) f y 0 (aV A p 0 [.i r0,.i r1,.s W]) L (.mk 6 2 [])/\Rs e g b (P+1) (aV A p 0 [.i r0,.i r1,.s W])/\w.size<=(aV A p 0 [.i r0,.i r1,.s W]).size:=λB hk U K z=>
    mf U (hw _) (LK hk B.lt) λs' A Q ap=>⟨s',.mk 6 3 [.mk 6 2 [],.mk 0 _ [],.mk 6 2 []],rfl,by show b.size<=_;omega,dJ.aV (m:=A) (o:=0) (r:=[.i 6,.i 3,.s s']) (B.ext ap),(Q.cB bO).iG,((z.ext ap).cB bO).iG,(K.ext ap).cB R V _ _,by rw[bD];have:=B.lt;have:=ap.aP;omega⟩
   have zb:∀h:E,J h (h.push (.cells (de [.i 0,.i 0,.s .nil]) dx))/\dJ (h.push (.cells (de [.i 0,.i 0,.s .nil]) dx)) h.size dx [.i 0,.i 0,.s .nil]:=by grind [J.push,dJ.push]
   have ao:∀{ai:ad}{h:E}{n:Int}{si:N},(∀Y∈ai,Y<h.size)->HX ai f y 0 h L (.mk 6 2 [])->HX ai f y 0 h si (.mk 0 n [])->jc (dg ai (h.push (.cells (de [.i 6,.i 2,.s L,.i 0,.i n,.s si,.i 6,.i 2,.s L]) dx))) (.mk h.size 0 3 3) [.mk 6 2 [],.mk 0 n [],.mk 6 2 []]:=λhS z Q=>
    sZ [(.mk 6 2 [],L),(.mk 0 _ [],_),(.mk 6 2 [],L)] bO hS (by simp;exact⟨z.sl,Q.sl,z.sl⟩) rfl rfl
   have au:∀{h:E}{p:Nat},w.size<=p->p<h.size->∀Y∈p::b.size::c,Y<h.size:=λz Q=>dC (an (h:=w) V) V Q;refine⟨(dW r9.r V 9).aO λ_ v⟨n,k,_,_,al,u⟩=>⟨(LW bW).fq u,n,k,G bW u _,G bW u _,G bW u _,G bW u _,G bW u _,G bW u _,?_,?_⟩,?_⟩
   .have I:=r9.to u al;have CE:=u.aP;have T:=h9.fz (by simp[Z]) u;refine MU (b.size::c) f y 0 (LW CE) n λaw q ac l=>?_;have aq:=l.aP;have d:=λi=>G CE (l.fz _) i;refine⟨d _,d _,d _,d _,d _,d _,?_,?_⟩
    .intro s;have j:=px s;have U:jc (dg (b.size::c) s) (.mk q.size 0 3 3) [.mk 6 2 [],.mk 0 n [],.mk 6 2 []]:=ao (ai:=b.size::c) (an V) (T.ext l) ac;have aA:=j.aP;refine⟨?_,?_⟩
     .refine mf (M:=s) (g:=e) U (hw n) (LW V) λav C am t=>?_;intro O;have ae:=px O;have ah:=t.aP;have d:=λi=>G (h:=C) (A:=O) V (ae.fz _) i;refine⟨d _,d _,d _,d _,d _,d _,?_⟩;intro ab;let⟨X,aa,ak⟩:=kT (M:=C) (c:=O) (a:=ab) rfl rfl rfl;exact⟨av,.mk 6 3 [.mk 6 2 [],.mk 0 n [],.mk 6 2 []],rfl,by show b.size<=C.size;omega,aa,am.ext X,(((T.ext l).ext j).ext t).ext X,(((I.ext l).ext j).ext t).ext X,V⟩
     .intro C;obtain⟨t,O⟩:J s C/\dJ C s.size dx [.i 0,.i 0,.s .nil]:=zb s;have d:=λi=>G (h:=s) (A:=C) V (t.fz _) i;exact⟨d _,d _,d _,d _,d _,d _,j7 O V (jc.le (t.dg λak hb=>(aY.1 hb).elim (λz=>bG V) bu) U) (((I.ext l).ext j).ext t) (((T.ext l).ext j).og t bW)⟩
    .intro s;obtain⟨j,ab⟩:J q s/\dJ s q.size dx [.i 0,.i 0,.s .nil]:=zb q;have d:=λi=>G (h:=q) (A:=s) V (j.fz _) i;refine⟨d _,d _,d _,d _,d _,d _,?_⟩;intro C;have t:=px C;have O:=(T.ext l).og j bW;exact j7 (ab.ext t) V (ao (au V ab.lt) O (ac.og j bW)) (((I.ext l).ext j).ext t) (O.ext t)
   .have I:=r9.to u al;have CE:=u.aP;have T:=h9.fz (by simp[Z]) u;intro q;obtain⟨l,X⟩:J v q/\dJ q v.size dx [.i 0,.i 0,.s .nil]:=zb v;have d:=λi=>G (h:=v) (A:=q) V (l.fz _) i;have aq:=l.aP;refine⟨d _,d _,d _,d _,d _,d _,?_⟩;refine MU (v.size::b.size::c) f y 0 (LK V X.lt) n λah s ae j=>?_;have d:=λi=>G (h:=q) (A:=s) V (j.fz _) i;refine⟨d _,d _,d _,d _,d _,d _,?_⟩;intro C;have t:=px C;have O:=(T.og l bW).ext j;exact j7 ((X.ext j).ext t) V (ao (au V (X.ext j).lt) O ae) (((I.ext l).ext j).ext t) (O.ext t)
   .intro v;obtain⟨I,ar⟩:J w v/\dJ v w.size dx [.i 0,.i 0,.s .nil]:=zb w;have d:=λi=>G (h:=w) (A:=v) V (I.fz _) i;have CE:=I.aP;refine⟨d _,d _,d _,d _,d _,d _,?_⟩;refine(dW (r9.ext I).r V 9).aO λ_ q⟨n,k,_,_,ax,aa⟩=>⟨(LK bW ar.lt).fq aa,n,k,?_⟩;have d:=λi=>G (h:=v) (A:=q) V aa i;refine⟨d _,d _,d _,d _,d _,d _,?_⟩;have X:=ar.congr (aa.bC w.size ar.lt cG);have aq:=aa.aP;refine MU (w.size::b.size::c) f y 0 (LK bW X.lt) n λah s ae j=>?_;have d:=λi=>G (h:=q) (A:=s) V (j.fz _) i;refine⟨d _,d _,d _,d _,d _,d _,?_⟩;intro C;have t:=px C;have O:=((h9.og I bW).fz (by simp[Z]) aa).ext j;exact j7 ((X.ext j).ext t) bW (ao (au bW (X.ext j).lt) O ae) ((((r9.ext I).to aa ax).ext j).ext t) (O.ext t)
  .rintro⟨p,i⟩ h ⟨F,k,ho,hk,B,z,Q,K,X⟩;simp only at ho hk B;subst ho;have bl:=B.lt;refine⟨_,B.dz 0,_,B.dz 1,_,B.dz 2,?_⟩;have L3:∀{A:E},h.size<=A.size->Lw e [D.size,m3.size,b.size] A:=cG;refine(dW K.r V 9).aO λ_ v⟨n,en,_,_,al,u⟩=>⟨(L3 bW).fq u,n,en,?_⟩;have CE:=u.aP;have gg:∀{O aa:E},h.size<=O.size->Fz [e] O aa->∀i,aR aa p i=aR O p i:=by grind [kg]
   have ga:=λi=>G (h:=h) (A:=v) X u i;have gb:=λi=>gg (O:=h) (aa:=v) bW u i;refine⟨?_,?_,?_,?_,?_,?_,?_⟩;iterate 6 first|exact ga _|exact gb _
   refine MU (b.size::c) f y 0 (L3 CE) n λaw q ac l=>?_;have ga:=λi=>G (h:=v) (A:=q) V (l.fz _) i;have gb:=λi=>gg (O:=v) (aa:=q) CE (l.fz _) i;refine⟨?_,?_,?_,?_,?_,?_,?_⟩;iterate 6 first|exact ga _|exact gb _
   intro s;have j:=px s;have aq:=l.aP;have ai:=(z.fz (by simp[Z]) u).ext l;have ak:=(Q.fz (by simp[Z]) u).ext l;have U:jc (dg (b.size::c) s) (.mk q.size 0 3 3) [k,.mk 0 n [],.mk 6 2 []]:=sZ (S:=b.size::c) (M:=q) [(k,F),(.mk 0 n [],aw),(.mk 6 2 [],L)] bO (an V) (by simp;exact⟨ai.sl,ac.sl,ak.sl⟩) rfl rfl;refine mf (M:=s) (g:=e) U (.lx (by simp;exact⟨ai.wx,ac.wx,ak.wx⟩)) (L3 (A:=s) (oh j.aP)) λav C am t=>?_;have ao:=(((K.to u al).ext l).ext j).ext t;exact⟨av,_,rfl,(am.cB bO).iG.sl,am.wx,((ao.cB R bW _ _).r).aO V,(ao.cB R bW _ _).f⟩
 .intro m6 D;let⟨x7,B7,z7⟩:=kT (M:=H) (c:=m6) (a:=D) rfl rfl rfl;clear_value D;have r7:=r5.ext x7;have C:∀{h:E},D.size<=h.size->Lw e [m3.size,b.size] h:=λz=>lw hr cG;refine(dW r7.r V 3).aO λ_ m8⟨n,en,n0,n3,L,u⟩=>⟨(lw hr cG:Lw e [H.size,m3.size,b.size] D).fq u,n,en,?_⟩;rw[dt (b:=1+n) V V];have z8:=u.aP;have ac:b.size<=H.size:=V;refine⟨λp h=>0<=p/\p<=3/\∃F k,dJ h H.size dx [.i k.op,.i k.cE,.s F]/\HX (H.size::b.size::c) f y 0 h F k/\Rs e g b (P+1+4*(3 -p).toNat) h/\D.size<=h.size,λp _=>p.toNat,⟨V,V,s3,.mk 6 0 [],B7.congr (u.bC _ V cG),((h3.ext x5).og x7 bW).fz (by simp[Z]) u,⟨(r7.to u L).f,L.aO V⟩,z8⟩,?_⟩;rintro p h ⟨i0,i3,F,k,B,z,K,X⟩;refine⟨λhi=>?_,λ_=>⟨_,B.dz 0,_,B.dz 1,_,B.dz 2,F,k,rfl,(z.iG.cB bO).iG.sl,z.wx,(K.cB R bW _ _).r.aO V,(K.cB R bW _ _).f⟩⟩;simp only[bh]at hi;refine⟨_,B.dz 0,_,B.dz 1,_,B.dz 2,?_⟩;have d:∀{O aa:E},D.size<=O.size->Fz [e] O aa->∀i,aR aa H.size i=aR O H.size i:=by grind [kg]
  refine(Fo K.r V).aO λ_ w⟨A,en,d9,t⟩=>⟨(C X).fq t,A,en,d X t _,d X t _,d X t _,?_⟩;have z9:=t.aP;refine MU (H.size::b.size::c) f y 0 (C V) A λal v T I=>⟨d V (I.fz _) _,d V (I.fz _) _,d V (I.fz _) _,?_⟩;intro q;have l:=px q;have CE:=I.aP;have aq:=l.aP;have ai:=(z.fz (by simp[Z]) t).ext I;have U:jc (dg (H.size::b.size::c) q) (.mk v.size 0 2 2) [.mk 0 A [],k]:=sZ (S:=H.size::b.size::c) (M:=v) [(.mk 0 A [],al),(k,F)] bO (dC (an (h:=v) V) bW V) cG rfl rfl;refine mf (M:=q) (g:=e) U (.lx (by simp;exact⟨T.wx,ai.wx⟩)) (C (h:=q) V) λah s ae j=>?_;have ab:dJ s H.size dx [.i k.op,.i k.cE,.s F]:=(((B.congr (t.bC _ B.lt cG)).ext I).ext l).ext j;have aA:=j.aP;rw[dt (b:=p -1) V V];refine⟨ab.iQ bO,λak hb=>cg _ _ _ _ cG,⟨V,V,ah,.mk 6 1 [.mk 0 A [],k],dJ.aV (m:=s) (o:=0) (r:=[.i 6,.i 1,.s ah]) ab,ae.cB bO,?_,by rw[bD];omega⟩,by show(p -1).toNat<p.toNat;omega⟩;have Q:=((((K.to t d9).ext I).ext l).ext j).cB R ac 0 [.i 6,.i 1,.s ah];exact⟨Q.f,Q.r.aO V⟩
end
section
@[grind cases] structure BX (S:ad) (ds:af) (nf a k:Nat) (M:E) (s:N) (e:Ex):Prop where
 b:dJ M k dx [.i e.op,.i e.cE,.s s]
 h:HX (k::S) ds nf a M s e
section
variable{c:ad}{f Q h n k a b:Nat}{l s:N}{g:af}{i M d:E}{e:Ex}
def BX.bI{f d:E}(h:HX c g b a M s e)(i:f=M.push (.cells (de [.i 0,.i 0,.s .nil]) dx))(j:d=aV f M.size 0 [.i e.op,.i e.cE,.s s]):J M d/\BX c g b a M.size d s e/\d.size=M.size+1:=
 let⟨x,B,z⟩:=kT i j rfl;⟨x,⟨B,h.og x bW⟩,z⟩
def BX.fz(i:BX c g b a k M s e)(l:f∈c)(j:k≠f)(h:Fz [f] M d):BX c g b a k d s e:=by constructor<;>grind [BX.b,dJ.congr,Fz.bC,dJ.lt,BX.h,HX.fz]
def BX.ext(h:BX c g b a k M s e)(x:J M d):BX c g b a k d s e:=⟨h.b.ext x,h.h.ext x⟩
def BX.eB(h:BX c g b a k M s e){f:N}{d:Ex}(i:HX (k::c) g b a M f d):BX c g b a k (aV M k 0 [.i d.op,.i d.cE,.s f]) f d:=⟨dJ.aV (m:=M) (o:=0) (r:=[.i d.op,.i d.cE,.s f]) h.b,i.cB bO⟩
def HX.j7(d:HX (k::c) g b a M s e)(r:Rs f l i Q M)(j:Rd f l n i)(m:i.size<=k)(o:Q<=h):XP c f l i h (WX g b a) (.agg #[vi e.op,vi e.cE,s.v]) (aV M k 0 [.i e.op,.i e.cE,.s s]):=
 ⟨s,e,rfl,(d.cB bO).iG.sl,d.wx,(r.cB j m _ _).r.aO o,(r.cB j m _ _).f⟩
end
variable{c:ad}{f P:Nat}{l d p:N}{g:af}{j:av}{i:E}
def NZ(hS:∀m∈c,m<i.size)(x:f∈c)(m:GC f l P d p g j i)(hP:P+200+Cg 18<=10^16):bJ dN 288 [vp f 0,.agg #[d.v,p.v]] i (XP c f l i (P+200+Cg 18) (WX g j.length 0)):=by
 apply Hb (f,0);simp -zeta only[dU];intro e y z;let⟨x2,hl⟩:=fN (a:=e) (c:=y) rfl rfl;have s1:=pz e;have s2:y.size=i.size+2:=cG;have U:=px z;have w:=m.rd.lt;have ac:bd (dg [f] z) (.mk y.size 0 3 3) [1,1,3]:=by grind [bd.jU]
 clear_value z;clear_value y;have F:∀{b:E},y.size<=b.size->∀m∈e.size::c,m<b.size:=by grind [dC]
 have r3:Rs f l i P z:=⟨(x2.O U).fz _,(m.rd.ext x2).ext U⟩;have z3:=U.aP;refine(nX r3.r V ac bO).aO λ_ m4⟨T,q,ht,d4,G⟩=>⟨(lw w cG:Lw f [e.size,i.size] z).fq G,T,q,?_⟩;have r4:=r3.to G d4;have z4:=G.aP;intro N;have x5:=px N;have ad:bd (dg [f] N) (.mk m4.size 0 1 1) [T]:=bd.jU bE cG rfl rfl bO;clear_value N;have O:=r4.ext x5;have z5:=x5.aP;refine JX (S:=e.size::c) (F V) (by simp[x]) (m.to O.f O.r) V ad bO (m.gp.ty (t:=0) cH cH) cH (lw w cG) λD s6 r h6 d6 f6=>?_;intro m7 A;let⟨x8,Y,z8⟩:=BX.bI (f:=m7) (d:=A) h6 rfl rfl;clear_value A;have z6:=f6.aP;have Q:=(O.to f6 d6).ext x8;have K:r.size≠f:=V;have X:∀{b:E},A.size<=b.size->Lw f [r.size,e.size,i.size] b:=λI=>lw w cG;refine⟨λb=>∃R q,BX (e.size::c) g j.length 1 r.size b R q/\Rs f l i (P+2+Cg 18) b/\A.size<=b.size,?_,?_⟩
 .refine(dW Q.r V 3).aO λ_ s⟨W,en,_,_,v,h⟩=>⟨(X bW).fq h,W,en,λ_=>?_,λ_=>⟨s6,D,Y.fz (by simp[x]) K h,⟨(Q.to h v).f,v.aO V⟩,h.aP⟩⟩;have C:=Y.fz (by simp[x]) K h;have z9:=h.aP;intro n;have u:=px n;have L:jc (dg (r.size::e.size::c) n) (.mk s.size 0 1 1) [D]:=sZ (S:=r.size::e.size::c) (M:=s) [(D,s6)] bO (dC (F (b:=s) V) bW C.b.lt) cG rfl rfl;have CE:=u.aP;refine mf (M:=n) L (.iL (a:=1) (b:=g) (d:=j.length) cH (λI=>V) cH (λI=>V) cG) (X V) λab ae J B=>?_;have o:=((Q.to h v).ext u).ext B;have H:=((C.ext u).ext B).eB J;exact⟨ab,.mk 5 0 [D],H,⟨(o.cB m.rd V _ _).f,((o.cB m.rd V _ _).r).aO V⟩,by rw[bD];have:=B.aP;omega⟩
 rintro b ⟨R,q,o,aa,ag⟩;refine⟨_,o.b.dz 0,_,o.b.dz 1,_,o.b.dz 2,?_⟩;have W:∀{b:E},A.size<=b.size->Lw f [e.size,i.size] b:=λI=>lw w cG;refine XP.kk (Qm (c:=e.size::c) g j.length (F V) (by simp[x]) aa.r V T) (W ag) λs9 Z s h9 w9 v h=>?_;have H:=λaf=>kg h w (k:=r.size) ⟨V,o.b.lt⟩ af;refine⟨H _,H _,H _,?_⟩;have z9:=h.aP;intro n;have u:=px n;have C:=o.fz (by simp[x]) K h;have L:jc (dg (e.size::c) n) (.mk s.size 0 2 2) [Z,q]:=sZ (S:=e.size::c) (M:=s) [(Z,s9),(q,R)] bO (F V) (by simp;exact⟨h9,C.h.iG.sl⟩) rfl rfl;refine mf (M:=n) L (.lt w9 o.h.wx) (W (oh u.aP)) λab ae J B=>?_;exact J.j7 (((aa.to h v).ext u).ext B) m.rd V V
def NK(hS:∀h∈c,h<i.size)(x:f∈c)(h:GC f l P d p g j i)(hP:P+200+2*Cg 18<=10^16){F:Nat}{q:dP}(hq:j[F]? =some q)(h1:1<=q.aX.length):
 bJ dN 291 [vp f 0,.agg #[d.v,p.v],vi F] i (XP c f l i (P+200+2*Cg 18) (WX g j.length q.aX.length)):=by
 apply GU (f,0)
 simp -zeta only[dU]
 intro e I
 let⟨x2,hl⟩:=fN (a:=e) (c:=I) rfl rfl
 have s1:=pz e
 have s2:I.size=i.size+2:=cG
 have G:=h.rd.lt
 clear_value I
 have v:∀{b:E},I.size<=b.size->∀h∈e.size::c,h<b.size:=by grind [dC]
 have r2:Rs f l i P I:=⟨x2.fz _,h.rd.ext x2⟩
 have s:∀{b:E},I.size<=b.size->Lw f [e.size,i.size] b:=by grind [lw]
 let⟨ps,ai,e0,e1⟩:=h.hp.D hq
 have aJ:=bA hq
 have aM:=h.hp.aS
 have U:=AW _ (h.gp.eN q (aZ hq))
 have h3:q.aX.length<=3:=U.1
 have R:∀{b:E},Fz [f] i b->IR f b ps q.aX:=λZ=>ai.le (fh Z)
 have E1:∀{b:E},Fz [f] i b->aR b p.bq (p.off+F*5+1)=some (vi q.bL):=λZ=>(gV.1 (fh Z _ _ _ e1)).2
 refine⟨V,V,ps,(gV.1 (fh r2.f _ _ _ e0)).2,?_⟩
 refine AR (e.size::c) g j.length (a:=q.aX.length) (s bW) V λs3 m3 ax x3=>?_
 have z3:=x3.aP
 refine MU (e.size::c) g j.length q.aX.length (s z3) 1 λs4 m4 h4 x4=>?_
 have z4:=x4.aP
 intro m5
 have x5:=px m5
 have ay:jc (dg (e.size::c) m5) (.mk m4.size 0 2 2) [.mk 12 0 [],.mk 0 1 []]:=sZ (S:=e.size::c) (M:=m4) [(.mk 12 0 [],s3),(.mk 0 1 [],s4)] bO (v V) (by simp;exact⟨(ax.ext x4).sl,h4.sl⟩) rfl rfl
 have z5:=x5.aP
 refine mf (M:=m5) ay (.iL (a:=q.aX.length) (b:=g) (d:=j.length) cH (λm=>V) cH (λm=>V) cG) (s V) λs6 L h6 x6=>?_
 have z6:=x6.aP
 have r6:=(((r2.ext x3).ext x4).ext x5).ext x6
 intro m7
 have x7:=px m7
 have g7:GE (e.size::c) L m7 (.mk L.size 0 1 1) [.mk 2 0 [.mk 12 0 [],.mk 0 1 []]]:=Pb (v V) [(.mk 2 0 [.mk 12 0 [],.mk 0 1 []],s6)] bO cG rfl rfl
 clear_value m7
 have aN:=ai.aS
 refine VH (g:=q.aX.length) V h1 (λW B b=>∃y,GE (e.size::c) L b B y/\y.length=W/\(∀w∈y,WX g j.length q.aX.length w)/\Rd f l (P+22*W) b/\Fz [f] L b) ⟨_,g7,rfl,sp h6.wx,(r6.r.ext x7).aO V,x7.fz _⟩ ?_
 rintro W B b aI μ aK hj ⟨y,r,aL,hw,rM,fM⟩ aB
 have Q:=r6.f.O fM
 have zM:=fM.aP
 refine⟨λm=>?_,λ_=>?_⟩
 .simp only[bh]at m
  let⟨z,o⟩:=dY q.aX W
  have u:=U.2.1 z (aZ o)
  refine⟨V,V,z,(gV.1 ((R Q).D o)).2,?_⟩
  exact XP.nA (vz (c:=B.bq::e.size::c) (dC (v (b:=b) V) bW r.cD.2) (by simp[x]) (h.to Q rM) V (R Q) V (h.gp.ty u.1 u.2)) r fM (s V) r6.r (by simp[x]) V λw al K D g' J C _ _=>
   aB V _ _ ⟨_,g',fj,λA H=>by rcases bR.1 H with m|m;exact hw A m;simp at m;subst m;exact D.1,J.aO V,C⟩
 refine mf (r.cz DA.aO (v (b:=L) V) cH V) (.iL (a:=q.aX.length) (b:=g) (d:=j.length) cH (λm=>V) cH (λ_=>⟨V,V⟩) hw) (s V) λs8 o h8 x8=>?_
 intro m9 z
 let⟨am,Y,CE⟩:=BX.bI (f:=m9) (d:=z) h8 rfl rfl
 clear_value z
 have z8:=x8.aP
 have A:Rs f l i (P+66) z:=⟨(Q.bZ x8).bZ am,((rM.ext x8).ext am).aO V⟩
 have hk:o.size≠f:=V
 refine⟨λb=>∃B w,BX (e.size::c) g j.length q.aX.length o.size b B w/\Rs f l i (P+66+Cg 18) b/\z.size<=b.size,⟨V,V,_,E1 A.f,λ_=>?_,λ_=>⟨s8,_,Y,⟨A.f,A.r.aO V⟩,bW⟩⟩,?_⟩
 .have O:∀{b:E},z.size<=b.size->Lw f [o.size,e.size,i.size] b:=λm=>lw G fj
  have ad:∀{b:E},z.size<=b.size->∀h∈o.size::e.size::c,h<b.size:=λm=>dC (v (b:=z) V) m V
  refine JX (S:=o.size::e.size::c) (ad bW) (by simp[x]) (h.to A.f A.r) V (R A.f) V (h.gp.ty (t:=0) cH cH) cH (O bW) λD ac aa T af u=>?_
  have r:=λN=>kg u G (k:=o.size) ⟨V,Y.b.lt⟩ N
  refine⟨r _,r _,r _,?_⟩
  have aq:=u.aP
  intro H
  have C:=px H
  have ab:=Y.fz (by simp[x]) hk u
  have K:jc (dg (o.size::e.size::c) H) (.mk aa.size 0 2 2) [D,.mk 9 F y]:=sZ (S:=o.size::e.size::c) (M:=aa) [(D,ac),(.mk 9 F y,s8)] bO (ad aq) (by simp;exact⟨T.sl,ab.h.sl⟩) rfl rfl
  have aH:=C.aP
  refine mf (M:=H) K (.lx (by simp;exact⟨T.wx,h8.wx⟩)) (O V) λae X ag J=>?_
  have ah:=(((A.to u af).ext C).ext J).cB h.rd (k:=o.size) V 0 [.i 6,.i 1,.s ae]
  have hb:=((ab.ext C).ext J).eB ag
  exact⟨ae,.mk 6 1 [D,.mk 9 F y],hb,ah,by rw[bD];have:=J.aP;omega⟩
 rintro M3 ⟨B,w,u,al,aQ⟩
 refine MU (e.size::c) g j.length q.aX.length (s V) 0 λac aa T an=>?_
 have aq:=an.aP
 refine AR (e.size::c) g j.length (a:=q.aX.length) (s V) V λaC H av C=>?_
 have aH:=C.aP
 intro X
 have J:=px X
 have K:jc (dg (e.size::c) X) (.mk H.size 0 2 2) [.mk 0 0 [],.mk 12 0 []]:=sZ (S:=e.size::c) (M:=H) [(.mk 0 0 [],ac),(.mk 12 0 [],aC)] bO (v V) (by simp;exact⟨(T.ext C).sl,av.sl⟩) rfl rfl
 have aS:=J.aP
 refine mf (M:=X) K (.iL (a:=q.aX.length) (b:=g) (d:=j.length) cH (λm=>V) cH (λm=>V) cG) (s V) λaD az ag ao=>?_
 intro aA aj
 let⟨aF,ae,aU⟩:=BX.bI (f:=aA) (d:=aj) ag rfl rfl
 clear_value aj
 have aT:=ao.aP
 have ad:=(((an.O C).O J).O ao).O aF
 have O:=al.ext ad
 have u:=u.ext ad
 refine⟨_,u.b.dz 0,_,u.b.dz 1,_,u.b.dz 2,V,V,_,E1 O.f,?_⟩
 refine JX (S:=e.size::c) (v V) (by simp[x]) (h.to O.f O.r) V (R O.f) V (h.gp.ty U.2.2.1 U.2.2.2) cH (lw G fj) λaf aE ak ah au D=>?_
 have r:=λN=>kg D G (k:=o.size) ⟨V,u.b.lt⟩ N
 have g':=λN=>kg D G (k:=az.size) ⟨V,ae.b.lt⟩ N
 refine⟨?_,?_,?_,?_,?_,?_,?_⟩
 iterate 6 first|exact r _|exact g' _
 have aV:=D.aP
 intro ab
 have ap:=px ab
 have ar:=u.fz (by simp[x]) hk D
 have K:jc (dg (e.size::c) ab) (.mk ak.size 0 3 3) [.mk 4 0 [.mk 0 0 [],.mk 12 0 []],w,af]:=sZ (S:=e.size::c) (M:=ak) [(.mk 4 0 [.mk 0 0 [],.mk 12 0 []],aD),(w,B),(af,aE)] bO (v V) (by simp;exact⟨(ae.h.iG.fz (by simp[x]) D).sl,ar.h.iG.sl,ah.sl⟩) rfl rfl
 refine mf (M:=ab) K (.iL (a:=q.aX.length) (b:=g) (d:=j.length) cH (λ_=>rfl) cH (λm=>V) (by simp;exact⟨ag.wx,u.h.wx,ah.wx⟩)) (lw G (by have:=ap.aP;simp;omega)) λaP aO aw aG=>?_
 exact aw.j7 (((O.to D au).ext ap).ext aG) h.rd V V
end
section
variable{b:ad}{c P:Nat}{h d p:N}{f:af}{g:av}{m:E}
def WX.m1{b a:Nat}{x y z:Ex}(hd:f∈vH)(c:WX f b a x)(d:WX f b a y)(e:WX f b (a+2) z):WX f b a (.mk 8 1 [x,y,z]):=by
 grind [Rp,WX.mt]
def Oc(hS:∀u∈b,u<m.size)(L:c∈b)(u:GC c h P d p f g m)(hP:P+200+2*Cg 18<=10^16){F:Nat}{r:dP}(hq:g[F]? =some r){ag:Int}(ha:0<=ag/\ag<(r.aX.length:Int)):
 bJ dN 289 [vp c 0,.agg #[d.v,p.v],vi F,vi ag] m (XP b c h m (P+200+2*Cg 18) (WX f g.length r.aX.length)):=by
 apply Hd (c,0)
 simp -zeta only[dU]
 intro j ad
 let⟨x2,hl⟩:=fN (a:=j) (c:=ad) rfl rfl
 have s1:=pz j
 have s2:ad.size=m.size+2:=cG
 have hr:=u.rd.lt
 clear_value ad
 have al:∀{i:E},ad.size<=i.size->∀u∈j.size::b,u<i.size:=by grind [dC]
 have r2:Rs c h m P ad:=⟨x2.fz _,u.rd.ext x2⟩
 have L1:∀{i:E},ad.size<=i.size->Lw c [j.size,m.size] i:=by grind [lw]
 let⟨ps,aL,e0,e1⟩:=u.hp.D hq
 have a1:=bA hq
 have a4:=u.hp.aS
 have aB:=AW _ (u.gp.eN r (aZ hq))
 have h3:r.aX.length<=3:=aB.1
 have PS:∀{i:E},Fz [c] m i->IR c i ps r.aX:=λK=>aL.le (fh K)
 have E1:∀{i:E},Fz [c] m i->aR i p.bq (p.off+F*5+1)=some (vi r.bL):=λK=>(gV.1 (fh K _ _ _ e1)).2
 have a5:=aL.aS
 have aN:=u.gp.ty (t:=0) cH cH
 have a3:=Vk 18
 refine⟨V,V,ps,(gV.1 (fh r2.f _ _ _ e0)).2,?_⟩
 intro m3
 have x3:=px m3
 have aC:bd (dg [c] m3) (.mk ad.size 0 2 2) [0,1]:=bd.jU bE cG rfl rfl bO
 clear_value m3
 have r3:=r2.ext x3
 have z3:=x3.aP
 refine(iy (S:=[c]) cG (PS r3.f) aC cG).aO λ_ m4⟨aF,wl,y,gw,qw,x4⟩=>⟨(L1 z3).fq (x4.fz _),aF,y,?_⟩
 subst qw
 have aU:IR c m4 aF (r.aX++[0,1]):=GI.cz gw cG cG
 have r4:=r3.ext x4
 have z4:=x4.aP
 intro m5
 have x5:=px m5
 have g5:GE (j.size::b) m4 m5 (.mk m4.size 0 0 0) []:=by grind [Gr.bI]
 clear_value m5
 refine gP (n:=r.aX.length) V (λQ z i=>∃J,GE (j.size::b) m4 i z J/\J.length=Q/\(∀y∈J,WX f g.length (r.aX.length+2) y)/\Rd c h (P+Q) i/\Fz [c] m4 i) ⟨[],g5,rfl,bO,(r4.r.ext x5).aO V,x5.fz _⟩ ?_
 rintro Q z i aS μ hj ⟨J,aA,a2,hw,rM,fM⟩ aX
 have FM:=r4.f.O fM
 have zM:=fM.aP
 refine⟨λq=>?_,λ_=>?_⟩
 .simp only[bh]at q
  let⟨aH,O⟩:=dY r.aX Q
  have j7:∀{K:Nat}{U:ap}{A:E}{T:Nat},bJ dN K U A (XP (z.bq::j.size::b) c h A T (WX f g.length (r.aX.length+2)))->T<=P+(Q+1)->Rd c h (P+(Q+1)) A->Fz [c] i A->bJ dN K U A λab C=>gL [j.size,m.size] A C/\∃I G:Int,∃r2:N,ab=.agg #[vi I,vi G,r2.v]/\
   lS (C.push (.cells (de [.i I,.i G,.s r2]) dx)) dx [.i 0,.i 0,.s .nil] 40 z (N.mk C.size 0 1 1) λW B=>gL [j.size,m.size] (C.push (.cells (de [.i I,.i G,.s r2]) dx)) B/\aS W (eR ((Q:Int)+1)) B/\μ W (eR ((Q:Int)+1)) B<μ z Q i:=λhc hQ G Z=>
   XP.nA hc (aA.fL DA.aO Z cG) (fM.O Z) (L1 V) r4.r (by simp[L]) V λy W B w g' r' f' _ _=>
    aX V _ _ ⟨_,g',fj,λs D=>by rcases bR.1 D with q|q;exact hw s q;simp at q;subst q;exact w,r'.aO hQ,f'⟩
  refine⟨λ_=>?_,λ_=>⟨V,V,aH,(gV.1 ((PS FM).D O)).2,λ_=>?_,λ_=>j7 (((pC _ _ _).x rM).aO λ_ _ q=>q.aO (λy w=>w▸.Z1 ⟨V,V⟩) bW) V (rM.aO V) nK⟩⟩
  .rw[dt (b:=(ps.len:Int)+1) V V]
   exact j7 (((pC _ _ _).x rM).aO λ_ _ q=>q.aO (λy w=>w▸.Z1 ⟨V,V⟩) bW) V (rM.aO V) nK
  .refine(dW rM V 2).aO λ_ m6⟨ae,en,_,_,H,D⟩=>⟨(L1 V).fq D,ae,en,λ_=>?_,λ_=>j7 (((pC _ _ _).x H).aO λ_ _ q=>q.aO (λy w=>w▸.Z1 ⟨V,V⟩) bW) V H D⟩
   have z6:=D.aP
   have aa:∀{A:E},m6.size<=A.size->∀u∈z.bq::j.size::b,u<A.size:=λq=>dC (al (i:=m6) V) q (oh aA.cD.2)
   refine AR (z.bq::j.size::b) f g.length (a:=r.aX.length+2) (L1 V) V λs7 m7 h7 R=>?_
   have z7:=R.aP
   refine AR (z.bq::j.size::b) f g.length (a:=r.aX.length+2) (L1 V) V λs8 s h8 x8=>?_
   have z8:=x8.aP
   intro m9
   have x9:=px m9
   have Y:jc (dg (z.bq::j.size::b) m9) (.mk s.size 0 2 2) [.mk 12 Q [],.mk 12 ps.len []]:=sZ (S:=z.bq::j.size::b) (M:=s) [(.mk 12 Q [],s7),(.mk 12 ps.len [],s8)] bO (aa V) (by simp;exact⟨(h7.ext x8).sl,h8.sl⟩) rfl rfl
   have X:=((H.ext R).ext x8).ext x9
   exact j7 ((qH X Y 1 0).aO λ_ _ q=>q.aO (λy w=>w▸.iL cH (λq=>V) cH (λq=>V) cG) bW) V X (((D.bZ R).bZ x8).bZ x9)
 refine mf (aA.cz DA.aO (al (i:=m4) V) cH V) (.iL (a:=r.aX.length+2) (b:=f) (d:=g.length) cH (λq=>V) cH (λ_=>⟨V,V⟩) hw) (L1 V) λs6 m6 h6 x6=>?_
 have z6:=x6.aP
 intro m7 s
 let⟨x8,B8,z8⟩:=kT (M:=m6) (c:=m7) (a:=s) rfl rfl rfl
 clear_value s
 intro m9 G
 let⟨aG,ao,CE⟩:=BX.bI (f:=m9) (d:=G) (h6.ext x8) rfl rfl
 clear_value G
 have Z:Rs c h m (P+3) G:=⟨((FM.bZ x6).bZ x8).bZ aG,(((rM.ext x6).ext x8).ext aG).aO V⟩
 have hk:s.size≠c:=V
 have L2:∀{i:E},G.size<=i.size->Lw c [s.size,m6.size,j.size,m.size] i:=λq=>lw hr fj
 have am:∀{i:E},G.size<=i.size->∀u∈s.size::j.size::b,u<i.size:=λq=>dC (al (i:=G) V) q V
 have aI:∀{i:E},Fz [c] m4 i->IR c i aF (r.aX++[0,1]):=λK=>aU.le (fh K)
 have aK:Fz [c] m4 G:=((fM.bZ x6).bZ x8).bZ aG
 have wl:(r.aX++[0,1]).length=r.aX.length+2:=bO
 refine⟨λi=>∃z y,BX (j.size::b) f g.length (r.aX.length+2) s.size i z y/\Rs c h m (P+10+Cg 18) i/\G.size<=i.size,⟨V,V,_,E1 Z.f,λaM=>?_,λ_=>⟨V,V,_,E1 Z.f,λ_=>?_,λ_=>⟨s6,_,ao,⟨Z.f,Z.r.aO V⟩,bW⟩⟩⟩,?_⟩
 .simp only[bP]at aM
  refine(dW Z.r V 5).aO λ_ ac⟨ae,en,_,_,az,B⟩=>⟨(L2 bW).fq B,ae,en,λ_=>?_,λ_=>⟨V,V,_,E1 (Z.f.O B),λq=>by rw[aM]at q;exact absurd q cH,λ_=>⟨s6,_,ao.fz (by simp[L]) hk B,⟨(Z.to B az).f,az.aO V⟩,B.aP⟩⟩⟩
  have R:=Z.to B az
  have X:=B.aP
  have aJ:=ao.fz (by simp[L]) hk B
  refine JX (v:=r.aX++[0,1]) (S:=s.size::j.size::b) (am X) (by simp[L]) (u.to R.f R.r) V (aI (aK.O B)) cG aN cH (L2 X) λaj au H ak ai w=>?_
  rw[wl]at ak
  intro ab U
  let⟨aa,ay,a0⟩:=BX.bI (f:=ab) (d:=U) ak rfl rfl
  clear_value U
  have aP:=w.aP
  have ar:=(R.to w ai).ext aa
  have ah:=(aJ.fz (by simp[L]) hk w).ext aa
  have ax:HX (H.size::s.size::j.size::b) f g.length (r.aX.length+2) U s6 (.mk 9 F J):=(aJ.h.fz (by simp[L]) w).og aa bW
  have L3:∀{i:E},U.size<=i.size->Lw c [H.size,s.size,m6.size,j.size,m.size] i:=λq=>lw hr fj
  refine⟨λi=>∃z y,BX (s.size::j.size::b) f g.length (r.aX.length+2) H.size i z y/\HX (s.size::j.size::b) f g.length (r.aX.length+2) i s6 (.mk 9 F J)/\Rs c h m (P+4+Cg 18) i/\U.size<=i.size/\dJ i s.size dx [.i 9,.i F,.s s6],⟨λ_=>?_,λ_=>⟨au,aj,ay,ax.iG,ar,bW,ah.b⟩⟩,?_⟩
  .let⟨aH,O⟩:=dY r.aX 0
   refine⟨cH,V,aH,(gV.1 ((PS ar.f).D O)).2,λ_=>?_,λ_=>⟨au,aj,ay,ax.iG,ar,bW,ah.b⟩⟩
   refine AR (H.size::s.size::j.size::b) f g.length (a:=r.aX.length+2) (L3 bW) V λav an aq T=>?_
   have aQ:=T.aP
   refine AR (H.size::s.size::j.size::b) f g.length (a:=r.aX.length+2) (L3 aQ) V λaw af I C=>?_
   have a6:=C.aP
   intro aD
   have aO:=px aD
   have Y:jc (dg (H.size::s.size::j.size::b) aD) (.mk af.size 0 2 2) [.mk 12 0 [],.mk 12 ps.len []]:=sZ (S:=H.size::s.size::j.size::b) (M:=af) [(.mk 12 0 [],av),(.mk 12 ps.len [],aw)] bO (dC (am (i:=af) V) bW V) (by simp;exact⟨(aq.ext C).sl,I.sl⟩) rfl rfl
   have a7:=aO.aP
   refine mf (M:=aD) Y (.iL (a:=r.aX.length+2) (b:=f) (d:=g.length) cH (λq=>V) cH (λq=>V) (by simp;exact⟨aq.wx,I.wx⟩)) (L3 V) λaE aW aT aY=>?_
   have D:=((T.O C).O aO).O aY
   have hb:=(ay.ext D).eB aT
   have ha:=(ax.ext D).cB (k:=H.size) bO (o:=0) (l:=[.i 11,.i 0,.s aE])
   have hB:dJ (aV aW H.size 0 [.i 11,.i 0,.s aE]) s.size dx [.i 9,.i F,.s s6]:=(ah.b.ext D).congr (cg _ _ _ _ V)
   exact⟨aE,.mk 11 0 [.mk 12 0 [],.mk 12 ps.len []],hb,ha.iG,(ar.ext D).cB u.rd V _ _,by rw[bD];have:=D.aP;omega,hB⟩
  rintro M3 ⟨z,y,O,D,W,aE,aH⟩
  refine⟨_,O.b.dz 0,_,O.b.dz 1,_,O.b.dz 2,?_⟩
  intro an
  have T:=px an
  have Y:jc (dg (s.size::j.size::b) an) (.mk M3.size 0 2 2) [y,.mk 9 F J]:=sZ (S:=s.size::j.size::b) (M:=M3) [(y,z),(.mk 9 F J,s6)] bO (am V) (by simp;exact⟨O.h.iG.sl,D.sl⟩) rfl rfl
  have aQ:=T.aP
  refine mf (M:=an) Y (.lx (by simp;exact⟨O.h.wx,D.wx⟩)) (L2 V) λaw af I C=>?_
  have hb:=(BX.mk (e:=.mk 9 F J) ((aH.ext T).ext C) ((D.ext T).ext C)).eB I
  have aD:=((W.ext T).ext C).cB u.rd (k:=s.size) V 0 [.i 6,.i 1,.s aw]
  exact⟨aw,.mk 6 1 [y,.mk 9 F J],hb,⟨aD.f,aD.r.aO V⟩,by rw[bD];have:=C.aP;omega⟩
 .intro ac
  have D:=px ac
  have aC:bd (dg [c] ac) (.mk G.size 0 2 2) [1,2]:=bd.jU bE cG rfl rfl bO
  clear_value ac
  have X:=D.aP
  have I:∀{A M2:E}{C:Nat},G.size<=A.size->Fz [c] A M2->m.size<=C->C<G.size->∀B,aR M2 C B=aR A C B:=λq K h1 h2 B=>kg K hr ⟨h1,V⟩ B
  refine⟨I bW (D.fz _) V V _,I bW (D.fz _) V V _,I bW (D.fz _) V V _,I bW (D.fz _) V V _,I bW (D.fz _) V V _,?_⟩
  have R:=Z.ext D
  refine(nX R.r V aC bO).aO λ_ H⟨ae,en,hn,ai,w⟩=>⟨(L2 X).fq w,ae,en,I X w V V _,I X w V V _,I X w V V _,I X w V V _,I X w V V _,?_⟩
  have ay:=R.to w ai
  have aP:=w.aP
  refine JX (v:=r.aX++[0,1]) (S:=s.size::j.size::b) (am V) (by simp[L]) (u.to ay.f ay.r) V (aI ((aK.bZ D).O w)) cG aN cH (L2 V) λaw aH ab ax aD af=>?_
  rw[wl]at ax
  have aJ:=af.aP
  refine⟨I V af V V _,I V af V V _,I V af V V _,?_⟩
  intro U
  have aa:=px U
  have ar:=((ao.ext D).fz (by simp[L]) hk w).fz (by simp[L]) hk af
  have Y:jc (dg (s.size::j.size::b) U) (.mk ab.size 0 2 2) [aw,.mk 9 F J]:=sZ (S:=s.size::j.size::b) (M:=ab) [(aw,aH),(.mk 9 F J,s6)] bO (am V) (by simp;exact⟨ax.sl,ar.h.sl⟩) rfl rfl
  have a0:=aa.aP
  simp at hn
  refine mf (M:=U) Y (.iL (a:=r.aX.length+2) (b:=f) (d:=g.length) V (λq=>V) V (λq=>V) (by simp;exact⟨ax.wx,ar.h.wx⟩)) (L2 V) λav an aq T=>?_
  have hb:=((ar.ext aa).ext T).eB aq
  have az:=(((ay.to af aD).ext aa).ext T).cB u.rd (k:=s.size) V 0 [.i ae,.i 0,.s av]
  exact⟨av,.mk ae 0 [aw,.mk 9 F J],hb,⟨az.f,az.r.aO V⟩,by rw[bD];have:=T.aP;omega⟩
 rintro M3 ⟨z,y,O,W,aE⟩
 have L3:∀{i:E},G.size<=i.size->Lw c [m6.size,j.size,m.size] i:=λq=>lw hr fj
 have af:∀{A M2:E}{C:Nat},M3.size<=A.size->Fz [c] A M2->m.size<=C->C<G.size->∀B,aR M2 C B=aR A C B:=λq K h1 h2 B=>kg K hr ⟨h1,V⟩ B
 refine⟨V,V,_,E1 W.f,_,O.b.dz 0,_,O.b.dz 1,_,O.b.dz 2,?_⟩
 refine AR (j.size::b) f g.length (a:=r.aX.length) (L3 aE) ha λaq ac T D=>?_
 have X:=D.aP
 have gx:∀C B,m.size<=C->C<G.size->aR ac C B=aR M3 C B:=λC B h1 h2=>af bW (D.fz _) h1 h2 B
 refine⟨gx _ _ V V,gx _ _ V V,gx _ _ V V,(E1 (W.f.bZ D)).trans (E1 W.f).symm,gx _ _ V V,gx _ _ V V,gx _ _ V V,?_⟩
 have R:=W.ext D
 refine JX (S:=j.size::b) (al V) (by simp[L]) (u.to R.f R.r) V (PS R.f) V (u.gp.ty aB.2.2.1 aB.2.2.2) cH (L3 V) λaj au H ak ai w=>?_
 have I:∀B,aR H s.size B=aR ac s.size B:=cG
 refine⟨I _,I _,I _,?_⟩
 have aP:=w.aP
 intro ab
 have ae:=px ab
 have ah:=(O.ext D).fz (by simp[L]) hk w
 have Y:jc (dg (j.size::b) ab) (.mk H.size 0 3 3) [.mk 12 ag [],aj,y]:=sZ (S:=j.size::b) (M:=H) [(.mk 12 ag [],aq),(aj,au),(y,z)] bO (al V) (by simp;exact⟨(T.fz (by simp[L]) w).sl,ak.sl,ah.h.iG.sl⟩) rfl rfl
 refine mf (M:=ab) Y (.m1 u.gp.ds T.wx ak.wx O.h.wx) (L3 (oh ae.aP)) λar U an aa=>?_
 exact an.j7 (((R.to w ai).ext ae).ext aa) u.rd V V
end
section
variable{h o:Ex}
abbrev G3(M a:E)(k:Nat)(X:Prop):Prop:=aR a k 0=aR M k 0/\aR a k 1=aR M k 1/\aR a k 2=aR M k 2/\X
abbrev E3(v:Value)(X:Int->Int->N->Prop):Prop:=∃a b:Int,∃c:N,v=.agg #[vi a,vi b,c.v]/\X a b c
abbrev N1(L:ad)(e:Nat)(M:E)(K:Int->Int->N->E->Prop):Prop:=bJ dN 320 [vi 1,vi 0,N.v (.mk e 0 2 2)] M λv a=>gL L M a/\E3 v λb c d=>K b c d a
section
variable(L:ad)(c:Nat)(b:Int)(k l d p w q:N)(n a e:Nat)(F:Int->Int->N->E->Prop)
abbrev TR5(g:Nat)(M:E):Prop:=N1 L g M λd e f c=>G3 M c a (N1 L c.size (c.push (.cells (de [.i 9,.i b,.s k,.i d,.i e,.s f]) dx)) F)
abbrev TR4(c d:Int)(e:N)(M:E):Prop:=G3 M (M.push (.cells (de [.i c,.i d,.s e,.i 9,.i b,.s l]) dx)) a (TR5 L b k a F M.size (M.push (.cells (de [.i c,.i d,.s e,.i 9,.i b,.s l]) dx)))
abbrev TR3(M:E):Prop:=bJ dN 319 [vp c 0,.agg #[d.v,p.v],w.v,vi 0,vi 4] M λv e=>gL L M e/\E3 v λf g h=>G3 M e n (G3 M e a (TR4 L b k l a F f g h e))
abbrev TR2(g:Nat)(M:E):Prop:=bJ dN 215 [q.v,N.v (.mk g 0 3 3)] M λv f=>gL L M f/\∃s:N,v=s.v/\G3 M f n (aR f e 0=aR M e 0/\aR f e 1=aR M e 1/\G3 M f a (TR3 L c b k l d p s n a F f))
end
def _root_.Go.Vc.aaA{σ τ:Type}{n:Nat}(o:n<=9223372036854775807)(j:1<=n){m:E}{f:σ}{g:τ}{e:(σ->τ->Int->E->Prop)->(σ->τ->Int->E->Nat)->σ->τ->Int->E->Prop}(Q:Nat->σ->τ->E->Prop)(h:Q 1 f g m)
 (l:∀(k:Nat)(s:σ)(t:τ)(a:E)(I:σ->τ->Int->E->Prop)(μ:σ->τ->Int->E->Nat),1<=k->k<=n->Q k s t a->
  (k<n->∀c d b,Q (k+1) c d b->I c d (eR ((k:Int)+1)) b/\μ c d (eR ((k:Int)+1)) b<μ s t k a)->e I μ s t k a):
 ∃(I:σ->τ->Int->E->Prop)(μ:σ->τ->Int->E->Nat),I f g 1 m/\∀s t i a,I s t i a->e I μ s t i a:=by
 refine⟨λs t i b=>∃k:Nat,i=k/\1<=k/\k<=n/\Q k s t b,λ_ _ i _=>(n -i).toNat,⟨1,rfl,bW,j,h⟩,?_⟩
 grind [nQ,PB]
def TE(_:E)(a:ae)(n:Int):Prop:=∃s:N,a=[.i 12,.i n,.s s]/\s.len=0
def TE.aO:qj 3 TE:=⟨λ_ h=>h,λ⟨_,h,_⟩=>by rw[h];rfl⟩
abbrev GV(a m:E)(s:N)(l:ab):Prop:=Gr [] a m dx 3 TE s l
def GV.fL{b m a:E}{s:N}{l:ab}(h:GV b m s l)(q:a[s.bq]? =m[s.bq]?):GV b a s l:=by
 let⟨d,c,e,f⟩:=h;exact⟨d,c,e.congr q,f.aO λ_ _ h=>h⟩
def GV.ex{f:ad}{q m:E}{s:N}{l:ab}(a:GV q m s l)(i:s.bq∉f)(t:l.length<=1000):jc (dg f m) s (l.map λn=>.mk 12 n []):=by
 let⟨d,c,e,g⟩:=a;have H:=Gr.rO (S:=f) TE.aO ⟨d,c,e,g.aO λ_ _ a=>a⟩ i cH V;refine⟨by rw[H.aS];simp,H.lZ,H.kA,λp h b=>?_⟩;simp only[eu,jI]at b;obtain⟨n,j,rfl⟩:=b;obtain⟨r,⟨u,rfl,o⟩,k⟩:=H.kV p n j;exact⟨_,DA.of ⟨o,V,V,bO⟩,k⟩
@[grind cases] structure AS (S:ad) (ds:af) (nf a n0 k Q rb:Nat) (bs:N) (m M:E) (sl:N) (el:Ex) (sr:N) (er:Ex):Prop where
 b:dJ M k dx [.i 0,.i 0,.s .nil]
 hk:n0<=k
 l:HX (k::S) ds nf a M sl el
 r:HX (k::S) ds nf a M sr er
 s:Rs rb bs m Q M
section
variable{f:ad}{g:af}{b a n k Q t c:Nat}{j q r:N}{m M s:E}{e l:Ex}
def AS.ext(d:AS f g b a n k Q c j m M q e r l)(h:J M s):AS f g b a n k Q c j m s q e r l:=⟨d.b.ext h,d.hk,d.l.ext h,d.r.ext h,d.s.ext h⟩
def AS.fz(h:AS f g b a n k Q c j m M q e r l)(o:c∈f)(i:k≠c)(d:Fz [c] M s)(p:Rd c j t s):AS f g b a n k t c j m s q e r l:=by constructor<;>grind [AS.b,dJ.congr,Fz.bC,dJ.lt,AS.hk,AS.l,HX.fz,AS.r,AS.s,Rs.to]
def AS.bI(d:n<=M.size)(i:HX f g b a M q e)(k:HX f g b a M r l)(s:Rs c j m Q M):J M (M.push (.cells (de [.i 0,.i 0,.s .nil]) dx))/\AS f g b a n M.size Q c j m (M.push (.cells (de [.i 0,.i 0,.s .nil]) dx)) q e r l:=
 have h:=J.push M (.cells (de [.i 0,.i 0,.s .nil]) dx)
 ⟨h,dJ.push _ _ _,d,i.og h bW,k.og h bW,s.ext h⟩
end
variable{f:ad}{c P:Nat}{j d p:N}{g:af}{i:av}{m:E}
def WX.m3{b a:Nat}{z:Ex}(hd:g∈vH)(f:WX g b a h)(i:WX g b a o)(j:WX g b (a+3) z):WX g b a (.mk 8 3 [h,o,z]):=by
 obtain⟨-,c,-,-,d,e⟩:=Rp g hd;grind [WX.mt]
def WX.gZ{b a:Nat}(c:WX g b a h)(d:WX g b a o):WX g b a (.mk 1 0 [h,o]):=by grind [WX.iL]
def Od(hS:∀F∈f,F<m.size)(aK:c∈f)(F:GC c j P d p g i m)(hP:P+200+3*Cg 18<=10^16){B:Nat}{u:dP}(hq:i[B]? =some u)(bx:1<=u.aX.length):
 bJ dN 290 [vp c 0,.agg #[N.v d,N.v p],vi B] m (XP f c j m (P+200+3*Cg 18) (WX g i.length u.aX.length)):=by
 apply He (c,0)
 simp -zeta only[kd,nJ]
 intro z ao
 let⟨x2,hl⟩:=fN (a:=z) (c:=ao) rfl rfl
 have s1:=pz z
 have s2:ao.size=m.size+2:=by simp[ao,s1]
 have hr:=F.rd.lt
 clear_value ao
 have aq:∀{b:E},ao.size<=b.size->∀F∈z.size::f,F<b.size:=λw=>dC hS V V
 have r2:Rs c j m P ao:=⟨x2.fz _,F.rd.ext x2⟩
 have L1:∀{b:E},ao.size<=b.size->Lw c [z.size,m.size] b:=λw=>lw hr fj
 let⟨ps,be,e0,e1⟩:=F.hp.D hq
 have bU:=bA hq
 have bZ:=F.hp.aS
 have a7:=AW _ (F.gp.eN u (aZ hq))
 have h3:u.aX.length<=3:=a7.1
 have PS:∀{b:E},Fz [c] m b->IR c b ps u.aX:=λD=>be.le (fh D)
 have E1:∀{b:E},Fz [c] m b->aR b p.bq (p.off+B*5+1)=some (vi u.bL):=λD=>(gV.1 (fh D _ _ _ e1)).2
 have b0:=be.aS
 have bl:=F.gp.ty (t:=0) cH cH
 have au:c∈z.size::f:=by simp[aK]
 refine⟨V,V,ps,(gV.1 (fh r2.f _ _ _ e0)).2,?_⟩
 refine AR (z.size::f) g i.length (a:=u.aX.length+3) (L1 bW) V λs3 m3 bt x3=>?_
 have z3:=x3.aP
 intro m4
 have x4:=px m4
 have g4:GV m3 m4 (.mk m3.size 0 1 1) [(ps.len:Int)]:=Gr.jU (f:=[[.i 12,.i ps.len,.s s3]]) TE.aO bW rfl rfl ⟨rfl,bO,λav F A hj l=>by
  have:av=0:=by have:=bA hj;simp at this;omega
  subst this;simp at hj l;subst hj l;exact⟨s3,rfl,bt.sl.aS⟩⟩
 have s4:=pz m4
 clear_value m4
 rw[dt (b:=(ps.len:Int)+2) V V]
 refine AR (z.size::f) g i.length (a:=u.aX.length+3) (L1 V) V λs5 m5 h5 x5=>?_
 have z5:=x5.aP
 intro m6
 have x6:=px m6
 have g6:GV m5 m6 (.mk m5.size 0 1 1) [(ps.len:Int)+2]:=Gr.jU (f:=[[.i 12,.i (ps.len+2),.s s5]]) TE.aO bW rfl rfl ⟨rfl,bO,λav F A hj l=>by
  have:av=0:=by have:=bA hj;simp at this;omega
  subst this;simp at hj l;subst hj l;exact⟨s5,rfl,h5.sl.aS⟩⟩
 clear_value m6
 have r3:=r2.ext x3
 have vq:∀{b r:E}{L:Int}{C:N}{aa:ab}{aN:N->E->Prop}{aI:N},GV m3 b C aa->J m3 b->aa.length<=10->aI.len=0->(∀R r,GV m3 r R (aa++[L])->J m3 r->b.size<=r.size->(R.bq=C.bq\/b.size<=R.bq)->(∀H,H<b.size->H≠C.bq->r[H]? =b[H]?)->aN R r)->
  lS (b.push (.cells (de [.i 12,.i L,.s aI]) dx)) dx [.i 0,.i 0,.s .nil] 40 C (.mk b.size 0 1 1) aN:=λaE h hl ht hk=>
  Gr.nA (g:=[.i 0,.i 0,.s .nil]) (X:=[]) TE.aO cH aE (h.fz []) ⟨_,rfl,ht⟩ V λR r g' f' aA u=>hk R r g' f'.ext aA.1 aA.2 u
 refine aaA (n:=u.aX.length) V bx (λav C aI b=>∃aa l',GV m3 b C aa/\GV m3 b aI l'/\aa.length=av/\l'.length=av/\(∀L∈aa,0<=L/\L<((u.aX.length+3:Nat):Int))/\(∀L∈l',0<=L/\L<((u.aX.length+3:Nat):Int))/\J m3 b/\C.bq≠aI.bq) ⟨_,_,(g4.fL ((x5.O x6).bC _ (by show m3.size<_;omega))),Gr.da TE.aO g6 (λ_ w=>bu w) V,rfl,rfl,fj,fj,(x4.O x5).O x6,by show m3.size≠m5.size;omega⟩ ?_
 rintro av C aI b bT μ bV hj ⟨aa,l',aE,g',bX,bY,hw,bi,xM,bw⟩ bF
 have zM:=xM.aP
 have RM:=r3.ext xM
 refine⟨λw=>?_,λ_=>?_⟩
 .simp only[bh]at w
  refine AR (z.size::f) g i.length (a:=u.aX.length+3) (L1 V) V λs7 W h7 x7=>?_
  have gy:=aE.cD;have aP:=g'.cD
  have z7:=x7.aP
  intro m8
  refine vq (r:=W) (aE.fL (x7.bC _ gy.2)) (xM.O x7) V h7.sl.aS λZ m9 q x9 z9 Y T=>?_
  refine⟨(L1 (b:=m3) z3).wL ((((xM.O x7).O (J.push W _)).fz [c])) (x9.fz _),?_⟩
  refine AR (z.size::f) g i.length (a:=u.aX.length+3) (L1 V) V λac af a2 ak=>?_
  intro bj
  have O:=((g'.fL (x7.bC _ aP.2)).fL (T _ V (ur bw))).fL (ak.bC _ V)
  have CE:=ak.aP
  refine vq (r:=W) O (x9.O ak) V a2.sl.aS λa8 K I aJ bN U Q=>?_
  refine⟨(L1 (b:=m3) z3).wL (((x9.O ak).O (J.push af _)).fz [c]) (aJ.fz _),bF V _ _ _ ⟨_,_,(q.fL (ak.bC _ q.cD.2)).fL (Q _ (oh q.cD.2) V),I,fj,fj,λL l=>?_,λL l=>?_,aJ,oh q.cD.2⟩⟩
  .rcases bR.1 l with w|w
   .exact hw L w
   .simp at w;omega
  .rcases bR.1 l with w|w
   .exact bi L w
   .simp at w;omega
 have gy:=aE.cD;have aP:=g'.cD
 have nS:∀H,m3.size<=H->H∉z.size::f:=λH hb w=>by have:=aq (b:=ao) bW H w;omega
 have a9:∀aa:ab,(∀L∈aa,0<=L/\L<((u.aX.length+3:Nat):Int))->WX g i.length (u.aX.length+3) (.mk 9 B (aa.map λL=>.mk 12 L [])):=λaa hl=>.iL cH (λw=>V) cH (λ_=>⟨V,V⟩) (by simp;exactλL l=>.Z1 (hl L l))
 refine mf (aE.ex (nS _ gy.1) V) (a9 aa hw) (L1 V) λsl W h7 x7=>?_
 intro m8 m9
 obtain⟨x9,-,z9⟩:=kT (M:=W) (c:=m8) (a:=m9) rfl rfl rfl
 clear_value m9
 have z7:=x7.aP
 refine mf ((g'.fL ((x7.O x9).bC _ aP.2)).ex (nS _ aP.1) V) (a9 l' bi) (lw hr fj) λsr af a2 ak=>?_
 intro bj K
 obtain⟨aJ,-,bN⟩:=kT (M:=af) (c:=bj) (a:=K) rfl rfl rfl
 clear_value K
 have CE:=ak.aP
 have a3:=((h7.ext x9).ext ak).ext aJ
 have a5:=a2.ext aJ
 generalize ba:Ex.mk 9 B (aa.map λL=>.mk 12 L [])=el at a3
 generalize bb:Ex.mk 9 B (l'.map λL=>.mk 12 L [])=er at a5
 have a8:=(((RM.ext x7).ext x9).ext ak).ext aJ
 have bc:∀{q:Nat},K.size<=q->q≠c:=λw=>V
 have G:∀{b r:E}{q aH:Nat},K.size<=b.size->Fz [c] b r->m.size<=q->q<K.size->aR r q aH=aR b q aH:=λw D h1 h2=>kg D hr ⟨h1,V⟩ _
 have L4:∀{b:E},K.size<=b.size->Lw c [af.size,W.size,z.size,m.size] b:=λw=>lw hr fj
 have L5:∀{b:E}{q:Nat},K.size<=q->q<b.size->Lw c [q,af.size,W.size,z.size,m.size] b:=λw h'=>lw hr fj
 have aS:∀{b:E}{q:Nat},K.size<=q->q<b.size->∀F∈q::z.size::f,F<b.size:=λw h'=>dC (aq (b:=K) V) V h'
 have aX:=λ(h o:Ex)=>WX.gZ (g:=g) (b:=i.length) (a:=u.aX.length+3) (h:=h) (o:=o)
 let aN:=λ(q:Nat)(b:E)=>∃C A,BX (z.size::f) g i.length (u.aX.length+3) q b C A/\HX (q::z.size::f) g i.length (u.aX.length+3) b sl el/\Rs c j m (P+Cg 18) b
 have bq:∃k9,el=.mk 9 B k9:=⟨_,ba.symm⟩
 have br:∃k9,er=.mk 9 B k9:=⟨_,bb.symm⟩
 clear ba bb
 obtain⟨kl,rfl⟩:=bq
 obtain⟨kr,rfl⟩:=br
 let ap:=λ(q aO:Nat)(b:E)=>AS (z.size::f) g i.length (u.aX.length+3) K.size q (P+aO) c j m b sl (.mk 9 B kl) sr (.mk 9 B kr)
 let aD:=λq=>[q,af.size,W.size,z.size,m.size]
 let K0:=λ(mC:aj)(b:E)=>mC.2=0/\K.size<=mC.1/\aN mC.1 b
 let aC:=λ(q:Nat)(l H:Int)(F:N)(r:E)=>K0 (q,0) (aV r q 0 [.i l,.i H,.s F])
 have H3:∀{b r:E}{Q:Prop},K.size<=b.size->Fz [c] b r->Q->G3 b r W.size Q:=λI D h=>⟨G I D V V,G I D V V,G I D V V,h⟩
 have H6:∀{b r:E}{Q:Prop},K.size<=b.size->Fz [c] b r->Q->G3 b r af.size (G3 b r W.size Q):=λI D h=>⟨G I D V V,G I D V V,G I D V V,H3 I D h⟩
 have H5:∀{b r:E}{Q:Prop},K.size<=b.size->Fz [c] b r->Q->aR r m.size 0=aR b m.size 0/\aR r m.size 1=aR b m.size 1/\G3 b r W.size Q:=λI D h=>⟨G I D V V,G I D V V,H3 I D h⟩
 have H8:∀{b r:E}{Q:Prop},K.size<=b.size->Fz [c] b r->Q->G3 b r af.size (aR r m.size 0=aR b m.size 0/\aR r m.size 1=aR b m.size 1/\G3 b r W.size Q):=λI D h=>⟨G I D V V,G I D V V,G I D V V,H5 I D h⟩
 have R7:∀{q t0:Nat}{b:E}{A:Ex},ap q (Cg 18) b->jc (dg (q::z.size::f) b) (.mk t0 0 2 2) [.mk 9 B kl,A]->WX g i.length (u.aX.length+3) A->N1 (aD q) t0 b (aC q):=λl hs hw=>
  mf hs (aX _ _ l.l.wx hw) (L5 l.hk l.b.lt) λs' r h' h=>by
   have hb:=(BX.mk (e:=.mk 0 0 []) (s:=.nil) (l.b.ext h) ⟨⟨rfl,bW,bO,bO⟩,.pS 0⟩).eB h';exact⟨rfl,l.hk,s',_,hb,(l.l.ext h).cB bO,(l.s.ext h).cB F.rd (oh l.hk) _ _⟩
 have R6:∀{q:Nat}{b:E}{C:N}{l H:Int}{kk:ax},ap q (Cg 18) b->HX (q::z.size::f) g i.length (u.aX.length+3) b C (.mk l H kk)->N1 (aD q) b.size (b.push (.cells (de [.i 9,.i B,.s sl,.i l,.i H,.s C]) dx)) (aC q):=λl w=>
  R7 (l.ext (J.push _ _)) (sZ [(.mk 9 B kl,sl),(.mk _ _ _,_)] bO (aS l.hk l.b.lt) (by simp;exact⟨l.l.sl,w.sl⟩) rfl rfl) w.wx
 have R5:∀{q t0:Nat}{b:E}{A:Ex},ap q (Cg 18) b->jc (dg (q::z.size::f) b) (.mk t0 0 2 2) [A,.mk 9 B kr]->WX g i.length (u.aX.length+3) A->TR5 (aD q) B sl W.size (aC q) t0 b:=λl hs hw=>
  mf hs (aX _ _ hw l.r.wx) (L5 l.hk l.b.lt) λs' r h' h=>
   have I:=Ve (wc l.hk l.b.lt)
   H3 I (h.fz _) (R6 (l.ext h) h')
 have R4:∀{q:Nat}{b:E}{C:N}{A:Ex},ap q (Cg 18) b->HX (q::z.size::f) g i.length (u.aX.length+3) b C A->TR4 (aD q) B sl sr W.size (aC q) A.op A.cE C b:=λ{q b C A} l w=>
  have h:=J.push b (.cells (de [.i A.op,.i A.cE,.s C,.i 9,.i B,.s sr]) dx)
  have I:=Ve (wc l.hk l.b.lt)
  H3 I (h.fz _) (R5 (l.ext h) (sZ [(A,C),(.mk 9 B kr,sr)] bO (aS l.hk l.b.lt) (by simp;exact⟨w.sl,l.r.sl⟩) rfl rfl) w.wx)
 have a_:∀{a0 L':ad}{b:E}{ac:N}{K':Int->Int->N->E->Prop},(∀F∈a0,F<b.size)->c∈a0->Rs c j m P b->IR c b ac (u.aX++[3,0,3])->Lw c L' b->(∀A C r,HX a0 g i.length (u.aX.length+3) r C A->Rd c j (P+Cg 18) r->Fz [c] b r->K' A.op A.cE C r)->bJ dN 319 [vp c 0,.agg #[N.v d,N.v p],N.v ac,vi 0,vi 4] b λbK r=>gL L' b r/\∃r0 r1:Int,∃r2:N,bK=.agg #[vi r0,vi r1,N.v r2]/\K' r0 r1 r2 r:=λbv bz R hw hL hk=>
  JX (v:=u.aX++[3,0,3]) bv bz (F.to R.f R.r) V hw fj bl cH hL λA C r w d D=>hk A C r (sp w) d D
 have R3:∀{q:Nat}{b:E}{ac:N},ap q 0 b->IR c b ac (u.aX++[3,0,3])->TR3 (aD q) c B sl sr d p ac af.size W.size (aC q) b:=λl hw=>
  a_ (aS l.hk l.b.lt) (by simp[aK]) l.s hw (L5 l.hk l.b.lt) λA C r w d' D=>
   have I:=Ve (wc l.hk l.b.lt)
   H6 I D (R4 (l.fz au (bc l.hk) D d') w)
 have R2:∀{q t0:Nat}{b:E},ap q 0 b->bd (dg [c] b) (.mk t0 0 3 3) [3,0,3]->TR2 (aD q) c B sl sr d p ps af.size W.size m.size (aC q) t0 b:=λl hw=>
  (iy (S:=[c]) (by simp;exact l.s.r.lt) (PS l.s.f) hw fj).aO λ_ r⟨ac,wl,A,gw,qw,h⟩=>by
   subst qw;have I:=Ve (wc l.hk l.b.lt);exact⟨(L5 l.hk l.b.lt).fq (h.fz _),ac,A,H8 I (h.fz _) (R3 (l.ext h) (GI.cz gw (by simp;exact l.s.r.lt) fj))⟩
 have ay:∀{b:E}{aO:Nat},K.size<=b.size->HX (z.size::f) g i.length (u.aX.length+3) b sl (.mk 9 B kl)->HX (z.size::f) g i.length (u.aX.length+3) b sr (.mk 9 B kr)->Rs c j m (P+aO) b->J b (b.push (.cells (de [.i 0,.i 0,.s .nil]) dx))/\ap b.size aO (b.push (.cells (de [.i 0,.i 0,.s .nil]) dx)):=λh1 h2 h3 h4=>AS.bI h1 h2 h3 h4
 have r0:Rs c j m (P+0) K:=a8
 have wl:∀b:E,c<b.size->bd (dg [c] (b.push (.cells (de [.i 3,.i 0,.i 3]) bE))) (.mk b.size 0 3 3) [3,0,3]:=λb w=>bd.jU bE (by simp;exact w) rfl rfl bO
 refine⟨K0,⟨?_,?_⟩,?_⟩
 .intro ag
  have O:=px ag
  have aU:bd (dg [c] ag) (.mk K.size 0 3 3) [3,0,3]:=wl K a8.r.lt
  clear_value ag
  have aB:=O.aP
  have a4:=a3.ext O;have a6:=a5.ext O;have Y:=r0.ext O
  refine H8 bW (O.fz _) ⟨?_,?_⟩
  .refine(iy (S:=[c]) (by simp;exact Y.r.lt) (PS Y.f) aU fj).aO λ_ am⟨ac,bL,A,gw,qw,T⟩=>⟨(L4 aB).fq (T.fz _),ac,A,H8 aB (T.fz _) ⟨?_,?_⟩⟩
   all_goals have aW:IR c am ac (u.aX++[3,0,3]):=qw▸GI.cz gw (by simp;exact Y.r.lt) (by rw[<-qw];simp;omega)
   all_goals have bo:=T.aP
   .refine a_ (a0:=z.size::f) (aq V) au (Y.ext T) aW (L4 V) λah aT an ai a1 ae=>H6 V ae ⟨?_,?_⟩
    all_goals have ar:=(a4.ext T).fz au ae
    all_goals have aF:=(a6.ext T).fz au ae
    all_goals have aM:=(Y.ext T).to ae a1
    all_goals have bP:=ae.aP
    .intro aw
     have Z:=px aw
     have bf:jc (dg (z.size::f) aw) (.mk an.size 0 2 2) [ah,.mk 9 B kr]:=sZ [(ah,aT),(.mk 9 B kr,sr)] bO (aq V) (by simp;exact⟨ai.sl,aF.sl⟩) rfl rfl
     have bQ:=Z.aP
     refine H3 V (Z.fz _) ⟨?_,?_⟩
     .refine mf (M:=aw) bf (aX _ _ ai.wx aF.wx) (L4 V) λbH aG aQ az=>H3 V (az.fz _) ⟨?_,?_⟩
      all_goals have Q:=Z.O az
      all_goals have bS:=az.aP
      .intro aL
       have al:=px aL
       have bg:jc (dg (z.size::f) aL) (.mk aG.size 0 2 2) [.mk 9 B kl,.mk 1 0 [ah,.mk 9 B kr]]:=sZ [(.mk 9 B kl,sl),(.mk 1 0 [ah,.mk 9 B kr],bH)] bO (aq V) (by simp;exact⟨(ar.ext Q).sl,aQ.sl⟩) rfl rfl
       have b1:=al.aP
       refine⟨?_,?_⟩
       .refine mf (M:=aL) bg (aX _ _ ar.wx aQ.wx) (L4 V) λbI bB bs bm=>?_
        have b2:=bm.aP
        intro bk
        have bM:=px bk
        refine H8 V (bM.fz _) ?_
        intro bC
        let⟨bn,bp,b3⟩:=BX.bI (f:=bk) (d:=bC) bs rfl rfl
        have U:=Q.O (al.O bm)
        exact⟨rfl,by show K.size<=bB.size;omega,bI,_,bp,(ar.ext U).og bn bW,(aM.ext U).ext bn⟩
       .let⟨U,l⟩:=ay (b:=aL) V ((ar.ext Q).ext al) ((aF.ext Q).ext al) ((aM.ext Q).ext al)
        exact H8 V (U.fz _) (R7 l (jc.le (U.dg λH hb=>(aY.1 hb).elim (λw=>bG V) bu) bg) aQ.wx)
      .let⟨U,l⟩:=ay (b:=aG) V (ar.ext Q) (aF.ext Q) (aM.ext Q)
       exact H8 V (U.fz _) (R6 l (aQ.og U bW))
     .let⟨U,l⟩:=ay (b:=aw) V (ar.ext Z) (aF.ext Z) (aM.ext Z)
      exact H8 V (U.fz _) (R5 l (jc.le (U.dg λH hb=>(aY.1 hb).elim (λw=>bG V) bu) bf) ai.wx)
    .let⟨U,l⟩:=ay (b:=an) V ar aF aM
     exact H8 V (U.fz _) (R4 l (ai.og U bW))
   .let⟨U,l⟩:=ay (b:=am) V (a4.ext T) (a6.ext T) (Y.ext T)
    exact H8 V (U.fz _) (R3 l (aW.le (fh (U.fz _))))
  .let⟨U,l⟩:=ay (b:=ag) aB a4 a6 Y
   exact H8 aB (U.fz _) (R2 l (aU.le (fh (U.fz _))))
 .let⟨U,l⟩:=ay (b:=K) bW a3 a5 r0
  have za:=U.aP
  intro ag
  refine H8 bW (U.fz _) ?_
  intro am
  have T:=px am
  exact H8 za (T.fz _) (R2 (l.ext T) (wl ag l.s.r.lt))
 rintro⟨q,aH⟩ b ⟨ho,hk,C,A,H,hl,R⟩
 simp only at ho hk H hl
 subst ho
 have bp:=H.b.lt
 have a4:=bc hk
 have U:∀{r:E},b.size<=r.size->Lw c [af.size,W.size,z.size,m.size] r:=λw=>L4 V
 have I:K.size<=b.size:=V
 have aQ:∀{r:E},b.size<=r.size->∀F∈q::z.size::f,F<r.size:=λw=>aS hk V
 refine⟨λr=>∃C A,BX (z.size::f) g i.length (u.aX.length+3) q r C A/\Rs c j m (P+2*Cg 18) r/\b.size<=r.size,⟨V,V,_,E1 R.f,λ_=>?_,λ_=>⟨C,A,H,⟨R.f,R.r.aO V⟩,bW⟩⟩,?_⟩
 .intro ag
  have O:=px ag
  have aU:bd (dg [c] ag) (.mk b.size 0 3 3) [3,0,3]:=wl b R.r.lt
  clear_value ag
  have aB:=O.aP
  have Y:=R.ext O
  refine H5 I (O.fz _) ?_
  refine(iy (S:=[c]) (by simp;exact Y.r.lt) (PS Y.f) aU fj).aO λ_ am⟨ac,bL,e',gw,qw,T⟩=>⟨(U aB).fq (T.fz _),ac,e',H5 V (T.fz _) ?_⟩
  have aW:IR c am ac (u.aX++[3,0,3]):=qw▸GI.cz gw (by simp;exact Y.r.lt) (by rw[<-qw];simp;omega)
  have bo:=T.aP
  have aF:=Y.ext T
  refine JX (v:=u.aX++[3,0,3]) (S:=q::z.size::f) (aQ V) (by simp[aK]) (F.to aF.f aF.r) V aW fj bl cH (U V) λah aT an ai a1 ae=>H3 V ae ?_
  have ai:HX (q::z.size::f) g i.length (u.aX.length+3) an aT ah:=sp ai
  have bP:=ae.aP
  refine AR (q::z.size::f) g i.length (a:=u.aX.length+3) (U V) V λbg aw ar Z=>H3 V (Z.fz _) ?_
  intro aG
  have az:=px aG
  have bQ:=Z.aP
  have a6:=(((hl.ext O).ext T).fz (by simp[aK]) ae).ext Z
  have hs:jc (dg (q::z.size::f) aG) (.mk aw.size 0 3 3) [.mk 9 B kl,ah,.mk 12 (ps.len+2) []]:=sZ [(.mk 9 B kl,sl),(ah,aT),(.mk 12 (ps.len+2) [],bg)] bO (aQ V) (by simp;exact⟨a6.sl,(ai.ext Z).sl,ar.sl⟩) rfl rfl
  have bS:=az.aP
  refine mf (M:=aG) hs (.lx (by simp;exact⟨a6.wx,ai.wx,ar.wx⟩)) (U V) λbk aL bm al=>?_
  have aM:=((((H.ext O).ext T).fz (by simp[aK]) a4 ae).ext (Z.O az)).ext al
  have hb:=aM.eB bm
  have bf:=(((aF.to ae a1).ext (Z.O az)).ext al).cB F.rd (k:=q) V 0 [.i 6,.i 3,.s bk]
  exact⟨aM.b.iQ bO,λb' bn=>cg _ _ _ _ (by simp at bn;omega),bk,.mk 6 3 [.mk 9 B kl,ah,.mk 12 (ps.len+2) []],hb,⟨bf.f,bf.r.aO V⟩,by rw[bD];have:=al.aP;omega⟩
 rintro M3 ⟨C,A,H,R,aA⟩
 refine⟨V,V,_,E1 R.f,_,H.b.dz 0,_,H.b.dz 1,_,H.b.dz 2,?_⟩
 refine AR (z.size::f) g i.length (a:=u.aX.length) (U aA) V λaL ag ai O=>?_
 have aB:=O.aP
 have ae:∀{M1 M2:E}{aH:Nat},b.size<=M1.size->Fz [c] M1 M2->aR M2 q aH=aR M1 q aH:=λw D=>kg D hr ⟨V,V⟩ _
 refine⟨ae aA (O.fz _),ae aA (O.fz _),ae aA (O.fz _),(E1 (R.f.bZ O)).trans (E1 R.f).symm,G V (O.fz _) V V,G V (O.fz _) V V,G V (O.fz _) V V,?_⟩
 have Y:=R.ext O
 refine JX (S:=z.size::f) (aq V) au (F.to Y.f Y.r) V (PS Y.f) V (F.gp.ty a7.2.2.1 a7.2.2.2) cH (U V) λah aM am al aG T=>⟨ae V T,ae V T,ae V T,?_⟩
 have bo:=T.aP
 intro an
 have az:=px an
 have aF:=(H.ext O).fz au a4 T
 have hs:jc (dg (z.size::f) an) (.mk am.size 0 3 3) [.mk 12 0 [],ah,A]:=sZ [(.mk 12 0 [],aL),(ah,aM),(A,C)] bO (aq V) (by simp;exact⟨(ai.fz au T).sl,al.sl,aF.h.iG.sl⟩) rfl rfl
 refine mf (M:=an) hs (.m3 F.gp.ds ai.wx al.wx H.h.wx) (U (oh az.aP)) λbg aw ar Z=>?_
 exact ar.j7 (((Y.to T aG).ext az).ext Z) F.rd V V
end
section
variable{a:E}{c:ae}{b:Nat}
section
variable{f:ad}{e P:Nat}{h d p:N}{i:af}{g:av}{m:E}
def Q6(hS:∀l∈f,l<m.size)(ah:e∈f)(l:GC e h P d p i g m)(hP:P+300+40*Cg 18<=10^16){O:Nat}{q:dP}(z:g[O]? =some q)(ai:O=0->q.aX.length=0):
 bJ dN 258 [vp e 0,.agg #[d.v,p.v],vi O] m (XP f e h m (P+300+40*Cg 18) (Fit i g.length q.aX.length)):=by
 apply Kp (e,0)
 simp -zeta only[dU]
 intro n w
 let⟨x2,hl⟩:=fN (a:=n) (c:=w) rfl rfl
 have s1:=pz n
 have s2:w.size=m.size+2:=by simp[w,s1]
 have hr:=l.rd.lt
 clear_value w
 have ae:∀{a:E},w.size<=a.size->∀l∈n.size::f,l<a.size:=λc=>dC hS V V
 have t:Rs e h m P w:=⟨x2.fz _,l.rd.ext x2⟩
 have J:∀{a:E},w.size<=a.size->Lw e [n.size,m.size] a:=λc=>lw hr fj
 let⟨U,af,e0,e1⟩:=l.hp.D z
 have al:=bA z
 have am:=l.hp.aS
 have ab:=AW _ (l.gp.eN q (aZ z))
 have h3:q.aX.length<=3:=ab.1
 have Z:∀{a:E},Fz [e] m a->IR e a U q.aX:=λx=>af.le (fh x)
 have ao:=af.aS
 have aa:e∈n.size::f:=by simp[ah]
 have ak:=l.gp.ty ab.2.2.1 ab.2.2.2
 refine⟨V,V,U,(gV.1 (fh t.f _ _ _ e0)).2,V,V,_,(gV.1 (fh t.f _ _ _ e1)).2,?_⟩
 refine(Qp ((Z t.f).le fG) 1).aO λ_ m3⟨pl,en,an,x3⟩=>⟨(J bW).fq (x3.fz _),pl,en,?_⟩
 have z3:=x3.aP
 refine MU (n.size::f) i g.length q.aX.length (J z3) 0 λs4 o C x4=>?_
 have z4:=x4.aP
 intro m5 H
 let⟨x6,b6,z6⟩:=BX.bI (f:=m5) (d:=H) C rfl rfl
 clear_value H
 have r6:=((t.ext x3).ext x4).ext x6
 have hk:o.size≠e:=V
 have L6:∀{a:E},H.size<=a.size->Lw e [o.size,n.size,m.size] a:=λc=>lw hr fj
 refine(dW r6.r V 4).aO λ_ r⟨b,en,_,_,d7,L⟩=>⟨(L6 bW).fq L,b,en,?_⟩
 have I:=r6.to L d7
 have z7:=L.aP
 have B:=l.to I.f I.r
 have D:∀j∈o.size::n.size::f,j<r.size:=dC (ae (a:=r) V) bW V
 have F:e∈o.size::n.size::f:=by simp[ah]
 have j7:∀{x:Nat}{ac:ap}{Q:Nat},bJ dN x ac r (XP (o.size::n.size::f) e h r Q (WX i g.length q.aX.length))->Q<=P+300+20*Cg 18->bJ dN x ac r λv A=>gL [o.size,n.size,m.size] r A/\∃W X:Int,∃t:N,v=.agg #[vi W,vi X,t.v]/\
  ∃u j,BX (n.size::f) i g.length q.aX.length o.size (aV A o.size 0 [.i W,.i X,.s t]) u j/\Rs e h m (P+300+20*Cg 18) (aV A o.size 0 [.i W,.i X,.s t])/\H.size<=(aV A o.size 0 [.i W,.i X,.s t]).size:=λc hQ=>
  XP.kk c (L6 z7) λu j A h1 h2 h3 C=>by
   have hb:=((b6.fz aa hk L).fz aa hk C).eB ⟨h1,h2⟩;have ag:=(I.to C h3).cB l.rd (k:=o.size) V 0 [.i j.op,.i j.cE,.s u];exact⟨u,j,hb,⟨ag.f,ag.r.aO hQ⟩,by rw[bD];have:=C.aP;omega⟩
 have Nw:=λ(a:E)(S':ad)(h1:∀j∈S',j<a.size)(h2:e∈S')(Q:Nat)(cM:GC e h Q d p i g a)(x:Fz [e] m a)(hQ:Q+20*Cg 18<=10^16)(s:Int)(hb:0<=s/\s<=18)=>Qi (g:=S') h1 h2 cM hQ (Z x) V ak hb
 have R:=j7 ((Nw r _ D F _ B I.f V 18 cH).aO λ_ _ c=>c.aO (λj K=>K.1) bW) V
 have first:1<=q.aX.length->∃y:Int,q.aX[0]? =some y/\aR r U.bq (U.off+Int.toNat 0*1)=some (vi y):=λc=>by
  let⟨y,T⟩:=dY q.aX 0;exact⟨y,T,(gV.1 ((Z I.f).D T)).2⟩
 refine⟨λa=>∃u j,BX (n.size::f) i g.length q.aX.length o.size a u j/\Rs e h m (P+300+20*Cg 18) a/\H.size<=a.size,?_,?_⟩
 .refine⟨λv a=>(v=true->O=0)/\r=a,⟨λ_=>⟨λc=>by simp at c;omega,rfl⟩,λ_=>⟨sx,rfl⟩⟩,?_⟩
  rintro v _ ⟨G,rfl⟩
  refine⟨λc=>?_,λ_=>?_⟩
  .have Y:=ai (G c)
   exact j7 ((NZ D F B V).aO λ_ _ c=>c.aO (λj K=>by rw[Y];exact K) bW) V
  refine⟨λv a=>(v=true->0<=pl)/\r=a,⟨λ_=>⟨λc=>⟨λ_=>⟨λ_=>by simpa using c,rfl⟩,λ_=>⟨λ_=>by simpa using c,rfl⟩⟩,λ_=>⟨bO,rfl⟩⟩,λ_=>⟨bO,rfl⟩⟩,?_⟩
  rintro v _ ⟨G,rfl⟩
  refine⟨λc=>j7 (Oc D F B V z ⟨G c,V⟩) V,λ_=>?_⟩
  refine⟨λv a=>(v=true->1<=q.aX.length)/\r=a,⟨λ_=>⟨λc=>?_,λ_=>⟨bO,rfl⟩⟩,λ_=>⟨bO,rfl⟩⟩,?_⟩
  .simp only[bh]at c
   let⟨y,T,K⟩:=first V
   exact⟨cH,V,y,K,λ_=>⟨λ_=>⟨λ_=>V,rfl⟩,λ_=>⟨λ_=>V,rfl⟩⟩,λ_=>⟨bO,rfl⟩⟩
  rintro v _ ⟨G,rfl⟩
  refine⟨λc=>j7 (Od D F B V z (G c)) V,λ_=>⟨λ_=>⟨λc=>?_,λ_=>R⟩,λ_=>R⟩⟩
  simp only[bh]at c
  let⟨y,T,K⟩:=first V
  have Y:=j7 (NK D F B V z V) V
  exact⟨cH,V,y,K,λ_=>⟨λ_=>Y,λ_=>⟨λ_=>Y,λ_=>R⟩⟩,λ_=>R⟩
 rintro a ⟨u,j,s,aj,aq⟩
 refine⟨_,s.b.dz 0,_,s.b.dz 1,_,s.b.dz 2,?_⟩
 refine(Fc (jc.le fG s.h.sl)).aO λ_ m8⟨n8,e8,q8,Y⟩=>⟨(J V).fq (Y.fz _),n8,e8,?_⟩
 have z8:=Y.aP
 have G:=aj.ext Y
 have K:=s.ext Y
 refine⟨λ_=>XP.pU (Nw m8 (n.size::f) (ae V) aa _ (l.to G.f G.r) G.f V 12 cH) (J V) G.f l.rd V (λ_ c=>c) V,λc=>⟨_,K.b.dz 0,_,K.b.dz 1,_,K.b.dz 2,?_⟩⟩
 simp only[dF]at c
 have r9:=G.cB l.rd (k:=n.size) V 0 [.i j.op,.i j.cE,.s u]
 exact⟨u,j,rfl,(K.h.iG.cB bO).iG.sl,⟨s.h.wx,V⟩,r9.r.aO V,r9.f⟩
end
def FZ{α:Type}{R:E->ae->α->Prop}{f:Nat}(g:qj f R){S:ad}(j:∀d∈S,d<a.size)(e:Nat)(l:List (α×ae))(i:∀x∈l,R (dg S a) x.2 x.1)(m:c=l.flatMap (·.2))(h:b=l.length):
 Gr S a (a.push (.cells (de c) e)) e f R (.mk a.size 0 b b) (l.map (·.1)):=by
 refine Gr.jU (f:=l.map (·.2)) g bW cG (by simp[h]) ⟨bO,λd k=>?_,λp d e o n=>?_⟩
 .grind
 .grind [Option.map_eq_some_iff,aZ]
abbrev CSl(m:E)(s:N)(l:List ab):Prop:=fU m 1 (nm m) s l
def A2{S:ad}(d:∀e∈S,e<a.size)(e:Nat)(l:List (ab×N))(k:l.length<=1000)(h:∀x∈l,bd (dg S a) x.2 x.1)(f:c=l.map λx=>.s x.2)(g:b=l.length):CSl (dg S (a.push (.cells (de c) e))) (.mk a.size 0 b b) (l.map (·.1)):=by
 have H:=FZ (R:=λm c x=>nm m c x) (f:=1) ⟨λh=>nm.le h _ _,λ⟨_,h,_⟩=>by rw[h];rfl⟩ d e (l.map λx=>(x.1,[Ce.s x.2])) (λx i=>by simp at i;obtain⟨m,o,j,rfl⟩:=i;exact⟨_,rfl,h _ j⟩) (c:=c) (b:=b) (by rw[f];clear f g h k;induction l<;>simp_all) (by simp[g]);have i:=Gr.cz nm.aO H d cH cG;grind [List.map,List.map_map,Function.comp_def]
abbrev GDl(S:ad)(a m:E)(s:N)(l:af):Prop:=Gr S a m kH 3 jL s l
end
section
variable{K:N->E->Prop}{f:N}
variable{S L:ad}{c P:Nat}{d:N}{m b:E}
def Ry(d:∀a∈L,a<b.size)(g:∀a,J b a->K f a):bJ dN 201 [f.v] b λv a=>gL L b a/\∃c:N,v=.agg #[c.v]/\K c a:=
 (Qc f b).aO λ_ a⟨e,x⟩=>⟨x.fq d,f,e,g a x⟩
def HD(d:∀a,J b a->K f a):bJ dN 201 [f.v] b λv a=>∃c:N,v=.agg #[c.v]/\K c a:=
 (Qc f b).aO λ_ a⟨e,x⟩=>⟨f,e,d a x⟩
def AA(hS:∀t∈S,t<m.size)(G:c∈S)(F:Rd c d P m)(hP:P+1<=10^16):
 bJ dN 200 [vp c 0] m λaX H=>∃u ds,aX=u.v/\GDl S m H u ds/\ds∈vH/\Rd c d (P+1) H/\Fz [c] m H:=by
 apply EP (c,0)
 simp -zeta only[dU]
 have hr:=F.lt
 have j:∀{b:E},m.size<=b.size->∀t∈S,t<b.size:=λh t hc=>by have:=hS t hc;omega
 have I:∀(b:E)(l:ab)(cs:ae)(aa:Nat),m.size<=b.size->cs=l.map Ce.i->aa=l.length->l.length<=1000->bd (dg S (b.push (.cells (de cs) bE))) (.mk b.size 0 aa aa) l:=by grind [bd.jU]
 have am:∀(b:E)(g:Nat),bd (dg S b) (.mk g 0 0 0) []:=by grind [pN]
 intro aU
 have x1:=px aU
 refine HD λaw x2=>?_
 intro Y
 have x3:=px Y
 have z2:=(x1.O x2).aP
 have i3:bd (dg S Y) (.mk aw.size 0 2 2) [0,1]:=cG
 clear_value Y
 refine HD λm4 B=>?_
 intro o
 have x5:=px o
 have z4:=(x3.O B).aP
 have c5:CSl (dg S o) (.mk m4.size 0 2 2) [[],[0,1]]:=A2 (j V) _ [([],.mk m.size 0 0 0),([0,1],.mk aw.size 0 2 2)] bO (by simp;exact⟨am _ _,i3.le B.eU⟩) rfl rfl
 clear_value o
 intro m6 Z
 obtain⟨x7,-,z7⟩:=kT (M:=o) (c:=m6) (a:=Z) rfl rfl rfl
 clear_value Z
 have z5:=x5.aP
 intro m8
 have x8:=px m8
 clear_value m8
 have z8:=x8.aP
 refine Ry cG λm9 x9=>?_
 intro K
 have az:=px K
 have z9:=x9.aP
 have aP:bd (dg S K) (.mk m9.size 0 3 3) [3,0,3]:=cG
 clear_value K
 have CE:=az.aP
 refine Ry cG λau af=>?_
 intro n
 have aA:=px n
 have a3:=af.aP
 have aH:CSl (dg S n) (.mk au.size 0 2 2) [[],[3,0,3]]:=A2 (j V) _ [([],.mk Z.size 0 0 0),([3,0,3],.mk m9.size 0 3 3)] bO (by simp;exact⟨am _ _,aP.le af.eU⟩) rfl rfl
 clear_value n
 intro aV p
 obtain⟨a0,-,a5⟩:=kT (M:=n) (c:=aV) (a:=p) rfl rfl rfl
 clear_value p
 have a4:=aA.aP
 have LL:∀{b:E},p.size<=b.size->∀g∈[n.size,o.size],g<b.size:=cG
 intro L
 have aB:=px L
 have aQ:bd (dg S L) (.mk p.size 0 2 2) [1,3]:=I p [1,3] _ _ V rfl rfl cH
 clear_value L
 have a1:=aB.aP
 refine Ry (LL a1) λav ag=>?_
 intro q
 have aC:=px q
 have a6:=ag.aP
 have aI:CSl (dg S q) (.mk av.size 0 1 1) [[1,3]]:=A2 (j V) _ [([1,3],.mk p.size 0 2 2)] bO (by simp;exact aQ.le ag.eU) rfl rfl
 clear_value q
 have a7:=aC.aP
 intro O
 have aD:=px O
 have aR:bd (dg S O) (.mk q.size 0 3 3) [1,1,0]:=I q [1,1,0] _ _ V rfl rfl cH
 clear_value O
 have a8:=aD.aP
 refine Ry (LL V) λQ ah=>?_
 intro T
 have ai:=px T
 have a9:=ah.aP
 have aS:bd (dg S T) (.mk Q.size 0 1 1) [0]:=I Q [0] _ _ V rfl rfl cH
 clear_value T
 have a_:=ai.aP
 refine Ry (LL V) λU z=>?_
 intro W
 have A:=px W
 have ba:=z.aP
 have aT:bd (dg S W) (.mk U.size 0 1 1) [3]:=I U [3] _ _ V rfl rfl cH
 clear_value W
 have bb:=A.aP
 refine Ry (LL V) λax v=>?_
 intro r
 have aE:=px r
 have bc:=v.aP
 have aJ:CSl (dg S r) (.mk ax.size 0 3 3) [[1,1,0],[0],[3]]:=A2 (j V) _ [([1,1,0],.mk q.size 0 3 3),([0],.mk Q.size 0 1 1),([3],.mk U.size 0 1 1)] bO (by simp;exact⟨aR.le ((((((ah.O ai).O z).O A).O v)).eU),aS.le (((z.O A).O v).eU),aT.le v.eU⟩) rfl rfl
 clear_value r
 have be:=aE.aP
 have ap:=(((((aD.O ah).O ai).O z).O A).O v).O aE
 have ao:=(((a0.O aB).O ag).O aC).O ap
 have C:=(((((x7.O x8).O x9).O az).O af).O aA).O ao
 have x:∀{aj ak:E}{u:N}{l:List ab},J aj ak->CSl (dg S aj) u l->CSl (dg S ak) u l:=λay h=>fU.le h ay.eU (nm.le ay.eU)
 have ac:CSl (dg S r) .nil []:=⟨rfl,bW,bO,bO⟩
 intro e
 have s:=px e
 have aL:dq (dg S e) (.mk r.size 0 4 4) Xe:=(FZ (R:=jL) jL.aO (j (b:=r) V) kH [(⟨0,0,[[1,3]]⟩,[.i 0,.i 0,.s (.mk av.size 0 1 1)]),(⟨1,0,[]⟩,[.i 1,.i 0,.s .nil]),(⟨0,0,[[1,1,0],[0],[3]]⟩,[.i 0,.i 0,.s (.mk ax.size 0 3 3)]),(⟨0,1,[]⟩,[.i 0,.i 1,.s .nil])] (by simp;exact⟨⟨_,rfl,x ap aI⟩,⟨_,rfl,ac⟩,⟨_,rfl,aJ⟩,⟨_,rfl,ac⟩⟩) rfl rfl).cz jL.aO (j V) cH cH
 clear_value e
 have bf:=s.aP
 intro y
 have w:=px y
 have aq:GDl S e y (.mk e.size 0 3 3) OR:=FZ (R:=jL) jL.aO (j (b:=e) V) kH [(⟨0,0,[[],[0,1]]⟩,[.i 0,.i 0,.s (.mk m4.size 0 2 2)]),(⟨0,0,[]⟩,[.i 0,.i 0,.s .nil]),(⟨0,0,[[],[3,0,3]]⟩,[.i 0,.i 0,.s (.mk au.size 0 2 2)])] (by simp;exact⟨⟨_,rfl,x (C.O s) c5⟩,⟨_,rfl,x s ac⟩,⟨_,rfl,x (ao.O s) aH⟩⟩) rfl rfl
 clear_value y
 have an:=((((x1.O x2).O x3).O B).O x5).O (C.O (s.O w))
 have bg:=w.aP
 have aG:Lw c [n.size,o.size] y:=λg k=>⟨LL V g k,by simp at k;omega⟩
 refine(dW (F.ext an) V 5).aO λ_ X⟨ar,aK,k0,k1,D,i⟩=>⟨aG.fq i,ar,aK,λh=>?_,λ_=>⟨_,OR,rfl,Gr.da jL.aO (aq.fL jL.aO i (by simp;exact⟨G,V⟩)) (λ_ h=>bu h) V,by simp[vH],D,(an.fz _).O i⟩⟩
 simp only[bh]at h
 let⟨ad,hq⟩:=dY Xe ar.toNat (by simp[Xe];omega)
 have aO:Le (dg S e) (dg (e.size::S) X):=(w.dg λg k=>(aY.1 k).elim (λh=>bG V) bu).O (i.eU (by simp[G]))
 let⟨f,hf,e0,e1,e2⟩:=(aL.le aO).D hq
 refine⟨k0,fj,_,(gV.1 e0).2,_,(gV.1 e1).2,_,(gV.1 e2).2,?_⟩
 intro a2
 have aM:GDl S e X (.mk e.size 0 3 3) OR:=aq.fL jL.aO i (by simp;exact⟨G,V⟩)
 have aN:OR++[ad]∈vH:=by
  have:=aZ hq;simp only[vH,aY,fu];exact bG ⟨ad,this,rfl⟩
 refine Gr.nA (g:=[.i 0,.i 0,.s .nil]) (k:=ad) jL.aO cH aM ((w.fz _).O i) ⟨f,rfl,hf⟩ (by simp[OR]) λaW M' g' f' z' q'=>?_
 have al:=((((((x1.O x2).O x3).O B).O x5).O (C.O s)).fz [c]).O f'
 have aF:Lw c [n.size,o.size] e:=λg k=>⟨LL V g k,by simp at k;omega⟩
 exact⟨aF.wL (((w.fz [c]).O i).bZ (J.push X _)) f',aW,_,rfl,Gr.da jL.aO g' (λ_ h=>bu h) V,aN,F.Bj D al (q' c D.lt (by show c≠e.size;omega)),al⟩
end
section
variable{a:Nat}{b:ae}
def TB(M:E)(b:ae)(x:dP×Option Ex):Prop:=∃c a k z,b=[.s c,.i x.1.bL,.i a,.i k,.s z]/\bd M c x.1.aX/\∀e,x.2=some e->a=e.op/\k=e.cE/\jc M z e.dm
def TB.aO:qj 5 TB:=⟨λh⟨b,a,k,z,e,c,d⟩=>⟨b,a,k,z,e,c.le h,λx j=>let⟨f,g,i⟩:=d x j;⟨f,g,jc.le h i⟩⟩,λ⟨_,_,_,_,e,_⟩=>by rw[e];rfl⟩
def FuR(M:E)(b:ae)(x:dP×Ex):Prop:=∃a s,b=[.s a,.i x.1.bL,.i x.2.op,.i x.2.cE,.s s]/\bd M a x.1.aX/\jc M s x.2.dm
def FuR.aO:qj 5 FuR:=⟨λh⟨a,s,e,b,c⟩=>⟨a,s,e,b.le h,jc.le h c⟩,λ⟨_,_,e,_⟩=>by rw[e];rfl⟩
abbrev acx(m:E)(s:N)(l:aJ):Prop:=fU m 5 (FuR m) s l
@[grind cases] structure acC (ds:af) (l:aJ):Prop where
 gp:GP ds (l.map (·.1))
 Nw:∀x∈l,Fit ds l.length x.1.aX.length x.2
def Gr.ae3{α:Type}{S:ad}{q m:E}{i f g c k:Nat}{R:E->ae->α->Prop}{p:List α}(w:0<f)(l:Gr S q m i f R (.mk g 0 a c) p)(u:k<=a):Gr S q m i f R (.mk g 0 k c) (p.take k):=by
 have v:=l.aS w;obtain⟨-,b,r,n⟩:=l;simp only[N.lJ]at v;have s:b.length=a:=by rw[n.aS];omega
 rcases r.D with d|⟨A,B,tail,d,h4,h5,h6,h7⟩
 .simp at d
 simp only[N.lJ,N.mk.injEq]at d h7;obtain⟨rfl,-,-,rfl⟩:=d;have j:b.flatten=(b.take k).flatten++(b.drop k).flatten:=by rw[<-uS,jT]
 have o:∀c∈b.take k,c.length=f:=by grind [fK.aP,List.mem_of_mem_take]
 refine⟨bO,b.take k,⟨by rw[eE o,qO,s,my u];rfl,bG ⟨g,c,(b.drop k).flatten++tail,bO,h4,by rw[<-nu,<-j];exact h5,by rw[<-nu,<-j];exact h6,fj⟩⟩,?_,o,λx y z e h=>?_⟩
 .grind [List.length_take,fK.aS]
 .rw[lE]at e h;split at e
  .rename_i t;rw[ba t]at h;exact n.eN x y z e h
  .simp at e
variable{S L:ad}{d P:Nat}{c:N}{m M:E}
def vu{K:N->Int->Int->Int->N->E->Prop}(d:ab)(r:Int)(o:∀c∈S,c<M.size)(n:∀e∈L,e<M.size)(u:d.length<=1000)(q:b=d.map Ce.i)(t:a=d.length)(s:∀c,J M c->bd (dg S c) (.mk M.size 0 a a) d->K (.mk M.size 0 a a) r 0 0 .nil c):
 bJ dN 257 [N.v (.mk M.size 0 a a),vi r] (M.push (.cells (de b) bE)) λv c=>gL L (M.push (.cells (de b) bE)) c/\∃f:N,∃g:Int,∃h:Int,∃i:Int,∃j:N,v=.agg #[f.v,vi g,vi h,vi i,j.v]/\K f g h i j c:=
 have k:=J.push M (.cells (de b) bE)
 (Wp r).aO λ_ c⟨m,x⟩=>⟨x.fq λe p=>k.lt (n e p),_,_,_,_,_,m,s c (k.O x) ((bd.jU bE (l:=d) o q t V).le x.eU)⟩
def Cq(a:ab)(r:Int):dP:=⟨a,[],r,0,[]⟩
def YT.aO:qj 5 YT:=⟨λh=>YT.le h,λ⟨_,_,_,_,e,_⟩=>by rw[e];rfl⟩
def Wj(l:aA)(c:∀d∈S,d<M.size)(h:∀x∈l,bd (dg S M) x.2 x.1.aX)(k:l.length<=1000)(f:b=l.flatMap λx=>[.s x.2,.i x.1.bL,.i 0,.i 0,.s .nil])(g:a=l.length):tD (dg S (M.push (.cells (de b) iV))) (.mk M.size 0 a a) (l.map (·.1)):=by
 have H:=(FZ (R:=YT) YT.aO c iV (l.map λx=>(x.1,[Ce.s x.2,.i x.1.bL,.i 0,.i 0,.s .nil])) (λx d=>by simp at d;obtain⟨i,j,e,rfl⟩:=d;exact⟨_,_,_,_,rfl,h _ e⟩) (c:=b) (b:=a) (by rw[f,List.flatMap_map]) (by simp[g])).cz YT.aO c cH cG;grind [List.map,List.map_map,Function.comp_def]
end
section
def aaI:av:=[Cq [1] 0,Cq [1,1] 1,Cq [1] 1,Cq [1,0] 1,Cq [2,1] 1,Cq [1,1] 0]
def aaS:av:=[Cq [3] 0,Cq [0] 1,Cq [0,1] 1,Cq [3,0] 3,Cq [3] 1,Cq [1,3,0] 0]
def Tk:av:=[Cq [0] 0,Cq [0,0] 0,Cq [1,0] 0,Cq [0] 1]
def Vt:(∀q∈aaI,(q.aX,q.bL)∈TJ)/\(∀q∈aaS,(q.aX,q.bL)∈TJ)/\∀q∈Tk,(q.aX,q.bL)∈TJ:=cH
def SY{α:Type}{l:List α}{k:Nat}{x:α}(h:l[k]? =some x):l.set k x=l:=ee λi=>by
 grind [bA]
variable{b:ad}{c P:Nat}{d:N}{m:E}
def I6(hS:∀j∈b,j<m.size)(u:c∈b)(G:Rd c d P m)(hP:P+10+4*(300+40*Cg 18)<=10^16):
 bJ dN 243 [vp c 0] m λbm m'=>∃w aF A o,bm=.agg #[N.v w,N.v aF]/\dq (dg b m') w A/\acx (dg b m') aF o/\acC A o/\Rd c d (P+10+4*(300+40*Cg 18)) m'/\Fz [c] m m':=by
 apply BH (c,0)
 unfold wq
 simp(config:={zeta:=false,maxSteps:=2000000}) only[kd,nJ]
 have hr:=G.lt
 intro an
 obtain⟨x1,s1⟩:=pu an
 clear_value an
 have aT:∀j∈m.size::b,j<an.size:=dC hS x1.aP V
 refine(AA aT (by simp[u]) (G.ext x1) V).aO λ_ e⟨w,A,q,gd,a0,d2,f2⟩=>⟨f2.fq cG,w,q,?_⟩
 have z2:=f2.aP
 have F2:=(x1.fz [c]).O f2
 have ay:dq (dg (m.size::b) e) w A:=by grind [Gr.cz,jL.aO,tE]
 intro m3 z
 obtain⟨x4,-,z4⟩:=kT (M:=e) (c:=m3) (a:=z) rfl rfl rfl
 clear_value z
 have h:∀{g:E},z.size<=g.size->∀j∈e.size::m.size::b,j<g.size:=by grind [dC]
 have LL:∀{g:E},z.size<=g.size->∀v∈[e.size,m.size],v<g.size:=cG
 refine vu (S:=e.size::m.size::b) [1] 0 (h V) (LL V) cH rfl rfl λa1 x5 i1=>?_
 have z5:=x5.aP
 refine vu (S:=e.size::m.size::b) [1,1] 1 (h V) (LL V) cH rfl rfl λa2 x6 i2=>?_
 have z6:=x6.aP
 refine vu (S:=e.size::m.size::b) [1] 1 (h V) (LL V) cH rfl rfl λa3 x7 i3=>?_
 have z7:=x7.aP
 refine vu (S:=e.size::m.size::b) [1,0] 1 (h V) (LL V) cH rfl rfl λa4 x8 i4=>?_
 have z8:=x8.aP
 refine vu (S:=e.size::m.size::b) [2,1] 1 (h V) (LL V) cH rfl rfl λa5 x9 i5=>?_
 have z9:=x9.aP
 refine vu (S:=e.size::m.size::b) [1,1] 0 (h V) (LL V) cH rfl rfl λa6 aq i6=>?_
 have CE:=aq.aP
 intro b1
 obtain⟨y1,bt⟩:=pu b1
 have X9:=x9.O aq;have X8:=x8.O X9;have X7:=x7.O X8;have X6:=x6.O X7
 have g1:tD (dg (e.size::m.size::b) b1) (.mk a6.size 0 6 6) aaI:=Wj [(Cq [1] 0,.mk z.size 0 1 1),(Cq [1,1] 1,.mk a1.size 0 2 2),(Cq [1] 1,.mk a2.size 0 1 1),(Cq [1,0] 1,.mk a3.size 0 2 2),(Cq [2,1] 1,.mk a4.size 0 2 2),(Cq [1,1] 0,.mk a5.size 0 2 2)] (h V) (by simp;exact⟨i1.le X6.eU,i2.le X7.eU,i3.le X8.eU,i4.le X9.eU,i5.le aq.eU,i6⟩) bO rfl rfl
 clear_value b1
 refine vu (S:=e.size::m.size::b) [3] 0 (h V) (LL V) cH rfl rfl λc1 u1 j1=>?_
 have v1:=u1.aP
 refine vu (S:=e.size::m.size::b) [0] 1 (h V) (LL V) cH rfl rfl λc2 u2 j2=>?_
 have v2:=u2.aP
 refine vu (S:=e.size::m.size::b) [0,1] 1 (h V) (LL V) cH rfl rfl λc3 u3 j3=>?_
 have v3:=u3.aP
 refine vu (S:=e.size::m.size::b) [3,0] 3 (h V) (LL V) cH rfl rfl λc4 u4 j4=>?_
 have v4:=u4.aP
 refine vu (S:=e.size::m.size::b) [3] 1 (h V) (LL V) cH rfl rfl λc5 u5 j5=>?_
 have v5:=u5.aP
 refine vu (S:=e.size::m.size::b) [1,3,0] 0 (h V) (LL V) cH rfl rfl λc6 u6 j6=>?_
 have v6:=u6.aP
 intro b2
 obtain⟨y2,bv⟩:=pu b2
 have U5:=u5.O u6;have U4:=u4.O U5;have U3:=u3.O U4;have U2:=u2.O U3
 have g2:tD (dg (e.size::m.size::b) b2) (.mk c6.size 0 6 6) aaS:=Wj [(Cq [3] 0,.mk b1.size 0 1 1),(Cq [0] 1,.mk c1.size 0 1 1),(Cq [0,1] 1,.mk c2.size 0 2 2),(Cq [3,0] 3,.mk c3.size 0 2 2),(Cq [3] 1,.mk c4.size 0 1 1),(Cq [1,3,0] 0,.mk c5.size 0 3 3)] (h V) (by simp;exact⟨j1.le U2.eU,j2.le U3.eU,j3.le U4.eU,j4.le U5.eU,j5.le u6.eU,j6⟩) bO rfl rfl
 clear_value b2
 refine vu (S:=e.size::m.size::b) [0] 0 (h V) (LL V) cH rfl rfl λe1 t1 k1=>?_
 have q1:=t1.aP
 refine vu (S:=e.size::m.size::b) [0,0] 0 (h V) (LL V) cH rfl rfl λe2 t2 k2=>?_
 have q2:=t2.aP
 refine vu (S:=e.size::m.size::b) [1,0] 0 (h V) (LL V) cH rfl rfl λe3 t3 k3=>?_
 have q3:=t3.aP
 refine vu (S:=e.size::m.size::b) [0] 1 (h V) (LL V) cH rfl rfl λe4 t4 k4=>?_
 have q4:=t4.aP
 intro b3
 obtain⟨y3,bw⟩:=pu b3
 have T3:=t3.O t4;have T2:=t2.O T3
 have g3:tD (dg (e.size::m.size::b) b3) (.mk e4.size 0 4 4) Tk:=Wj [(Cq [0] 0,.mk b2.size 0 1 1),(Cq [0,0] 0,.mk e1.size 0 2 2),(Cq [1,0] 0,.mk e2.size 0 2 2),(Cq [0] 1,.mk e3.size 0 1 1)] (h V) (by simp;exact⟨k1.le T2.eU,k2.le T3.eU,k3.le t4.eU,k4⟩) bO rfl rfl
 clear_value b3
 refine vu (S:=e.size::m.size::b) [] 0 (h V) (LL V) cH rfl rfl λM0 x0 n0=>?_
 have z0:=x0.aP
 have av:=((((u1.O U2).O y2)).O (t1.O T2)).O (y3.O x0)
 have XM:J z M0:=((x5.O X6).O y1).O av
 have G1:=tD.le av.eU g1
 have G2:=tD.le ((((t1.O T2)).O (y3.O x0)).eU) g2
 have aM:=tD.le x0.eU g3
 have dM:Rd c d (P+1) M0:=(d2.ext x4).ext XM
 have Z:∀{g:E},z.size<=g.size->Lw c [e.size,m.size] g:=λr=>lw hr fj
 have l:∀{g M':E}{v U:Nat},z.size<=v->v<g.size->Fz [c] g M'->aR M' v U=aR g v U:=λh1 h2 L=>bB (L.bC _ h2 cG) _
 refine(dW dM V _).aO λ_ m5⟨r1,en,bi,aG,d5,f5⟩=>⟨(Z V).fq f5,r1,en,bi,by simp at aG⊢;omega,?_⟩
 have ah:Le (dg (e.size::m.size::b) M0) (dg (e.size::m.size::b) m5):=f5.eU (by simp[u])
 have bF:=f5.aP
 let⟨I,aA⟩:=dY aaI r1.toNat (by simp[aaI]at aG⊢;omega)
 obtain⟨_,⟨pa,pn,pk,pz,rfl,pi⟩,pr⟩:=(tD.le ah G1).kV _ I aA
 have pg:=λs j r=>(gV.1 (pr s j r)).2
 refine⟨_,pg 0 _ rfl,_,pg 1 _ rfl,_,pg 2 _ rfl,_,pg 3 _ rfl,_,pg 4 _ rfl,?_⟩
 refine(dW d5 V _).aO λ_ m6⟨r2,en,bk,aI,d6,y⟩=>⟨(Z V).fq y,r2,en,?_⟩
 have bG:=y.aP
 have ai:Le (dg (e.size::m.size::b) m5) (dg (e.size::m.size::b) m6):=y.eU (by simp[u])
 let⟨p2,aB⟩:=dY aaS r2.toNat (by simp[aaS]at aI⊢;omega)
 obtain⟨_,⟨qa,qn,qk,qz,rfl,qi⟩,qr⟩:=(tD.le (ah.O ai) G2).kV _ p2 aB
 have qg:=λs j r=>(gV.1 (qr s j r)).2
 refine⟨l V V y,l V V y,l V V y,l V V y,l V V y,bk,by simp at aI⊢;omega,_,qg 0 _ rfl,_,qg 1 _ rfl,_,qg 2 _ rfl,_,qg 3 _ rfl,_,qg 4 _ rfl,?_⟩
 refine(dW d6 V _).aO λ_ f⟨r3,en,bl,aJ,d7,p⟩=>⟨(Z V).fq p,r3,en,?_⟩
 have bH:=p.aP
 have aj:Le (dg (e.size::m.size::b) m6) (dg (e.size::m.size::b) f):=p.eU (by simp[u])
 let⟨p3,aC⟩:=dY Tk r3.toNat (by simp[Tk]at aJ⊢;omega)
 obtain⟨_,⟨ra,rn,rk,rz,rfl,ri⟩,rr⟩:=(tD.le ((ah.O ai).O aj) aM).kV _ p3 aC
 have rg:=λs j r=>(gV.1 (rr s j r)).2
 refine⟨l V V p,l V V p,l V V p,l V V p,l V V p,l V V p,l V V p,l V V p,l V V p,l V V p,bl,by simp at aJ⊢;omega,_,rg 0 _ rfl,_,rg 1 _ rfl,_,rg 2 _ rfl,_,rg 3 _ rfl,_,rg 4 _ rfl,?_⟩
 intro m8
 have aK:J f m8:=J.push _ _
 have a9:bd (dg (e.size::m.size::b) f) (.mk b3.size 0 0 0) []:=pN
 have gf:Gr (e.size::m.size::b) f m8 iV 5 TB (.mk f.size 0 4 4) [(Cq [] 0,none),(I,none),(p2,none),(p3,none)]:=FZ TB.aO (h V) iV [((Cq [] 0,none),[.s (.mk b3.size 0 0 0),.i 0,.i 0,.i 0,.s .nil]),((I,none),[.s pa,.i I.bL,.i pn,.i pk,.s pz]),((p2,none),[.s qa,.i p2.bL,.i qn,.i qk,.s qz]),((p3,none),[.s ra,.i p3.bL,.i rn,.i rk,.s rz])] (by simp;exact⟨⟨_,_,_,_,rfl,a9,bO⟩,⟨_,_,_,_,rfl,pi.le (ai.O aj),bO⟩,⟨_,_,_,_,rfl,qi.le aj,bO⟩,⟨_,_,_,_,rfl,ri,bO⟩⟩) rfl rfl
 have s8:=Go.Vc.pz m8
 clear_value m8
 let t:=[Cq [] 0,I,p2,p3]
 have aQ:∀aa∈t,(aa.aX,aa.bL)∈TJ:=by
  simp only[t,aY,mV,FO];rintro aa (rfl|rfl|rfl|rfl)
  .simp[Cq,TJ]
  .exact Vt.1 _ (aZ aA)
  .exact Vt.2.1 _ (aZ aB)
  .exact Vt.2.2 _ (aZ aC)
 have aL:Fz [c] e f:=(((x4.O XM).fz [c]).O f5).O (y.O p)
 have bf:∀{g:E}{ac:N}{o:List (dP×Option Ex)}(U:Nat)(K:ae),Gr (e.size::m.size::b) f g iV 5 TB ac o->Gr (e.size::m.size::b) f (aV g e.size U K) iV 5 TB ac o:=λU K F=>F.Pq TB.aO ((Fz.cZ [e.size] _).aV (bu bO) U K) bO (by have:=F.cD;simp;omega)
 intro T
 have g9:Gr (e.size::m.size::b) f T iV 5 TB (.mk f.size 0 4 4) [(Cq [] 0,none),(I,none),(p2,none),(p3,none)]:=by grind [Array.size]
 have r9:Rs c d e (P+4) T:=(Rs.mk (aL.bZ aK) (d7.ext aK)).cB d2 bW 1 [.s (.mk f.size 0 4 4)]
 have s9:T.size=m8.size:=bD _ _ _ _
 clear_value T
 intro ao
 have ad:J T ao:=J.push _ _
 have bc:bd (dg [c] ao) (.mk T.size 0 5 5) [4,4,3,2,4]:=bd.jU bE fj rfl rfl bO
 clear_value ao
 have bC:=ad.aP
 refine(nX (r9.r.ext ad) V bc bO).aO λ_ bq⟨mn,en,a8,aN,af⟩=>⟨(Z V).fq af,mn,en,?_⟩
 have bp:2<=mn/\mn<=4:=by simp at a8;omega
 obtain⟨n,rfl⟩:∃n:Nat,mn=n:=⟨mn.toNat,V⟩
 have aW:N.cut (.mk f.size 0 4 4) 0 (Int.toNat n) 5=.mk f.size 0 n 4:=by simp[N.cut]
 rw[aW]
 refine⟨cH,V,fj,?_⟩
 intro ab
 have aP:Gr (e.size::m.size::b) f ab iV 5 TB (.mk f.size 0 n 4) ([(Cq [] 0,none),(I,none),(p2,none),(p3,none)].take n):=Gr.ae3 cH (bf 1 [.s (.mk f.size 0 n 4)] ((g9.ext TB.aO ad).fL TB.aO af (by simp[u];omega))) V
 have bj:Rs c d e (P+5) ab:=((r9.ext ad).to af aN).cB d2 bW 1 [.s (.mk f.size 0 n 4)]
 clear_value ab
 have aD:(t.take n).length=n:=by simp[t];omega
 have gp:GP A (t.take n):=⟨a0,V,V,λaa i=>aQ aa (jE i)⟩
 have ew:eR ((n:Int) -1)=n -1:=dt V V
 rw[ew]
 refine⟨λL g=>∃(i:Nat)(o:List (dP×Option Ex)),L=(i:Int) -1/\i<=n/\Gr (e.size::m.size::b) f g iV 5 TB (.mk f.size 0 n 4) o/\o.map (·.1)=t.take n/\(∀(s:Nat)(x:dP×Option Ex),o[s]? =some x->i<=s->∃q,x.2=some q/\Fit A n x.1.aX.length q)/\Rs c d e (P+5+(n -i)*(300+40*Cg 18)) g/\ab.size<=g.size,λL _=>(L+1).toNat,⟨n,_,rfl,bW,aP,by rw[List.map_take];rfl,λs x B r=>by have:=bA B;simp at this;omega,by rw[Vf,Nat.zero_mul];exact bj,bW⟩,?_⟩
 rintro L g ⟨i,o,rfl,bo,F,hl,ak,W,zM⟩
 have a7:o.length=n:=by rw[<-aD,<-hl];simp
 have gy:=F.cD
 simp only[N.mP]at gy
 have ax:f.size∉e.size::m.size::b:=λr=>by have:=h (g:=z) bW _ r;omega
 refine dit (λr=>?_) λr=>?_
 .obtain⟨i,rfl⟩:∃C,i=C+1:=⟨i -1,V⟩
  have ek:((i+1:Nat):Int) -1=(i:Int):=V
  rw[ek]
  let⟨x,Q⟩:=dY o i
  have al:(t.take n)[i]? =some x.1:=by rw[<-hl];simp[Q]
  have bb:tD (dg [c] g) (.mk f.size 0 n 4) (t.take n):=by
   have H:=F.rO TB.aO ax cH V;rw[<-hl];refine⟨fj,H.lZ,H.kA,λC au hy=>?_⟩;simp only[eu,jI]at hy;obtain⟨Y,R,rfl⟩:=hy;obtain⟨K,⟨D,i1,i2,i3,rfl,ha,-⟩,am⟩:=H.kV C Y R;have aE:=kO g (S:=e.size::m.size::b) (c:=[c]) (by simp[u]);exact⟨_,⟨D,_,_,_,rfl,ha.le aE⟩,aE.kV am⟩
  have aX:dq (dg [c] g) w A:=ay.le ((kO e (c:=[c]) (by simp[u])).O (fh W.f))
  have hB:(n -(i+1))*(300+40*Cg 18)+(300+40*Cg 18)=(n -i)*(300+40*Cg 18):=by rw[<-Dw];congr 1;omega
  have aS:(n -i)*(300+40*Cg 18)<=4*(300+40*Cg 18):=fg _ V
  have a_:i=0->x.1.aX.length=0:=λG=>by subst G;obtain⟨n',rfl⟩:∃n',n=n'+1:=⟨n -1,V⟩;simp[t]at al;rw[<-al];rfl
  have aU:∀j∈f.size::e.size::m.size::b,j<g.size:=dC (h (g:=g) V) bW gy.2
  refine XP.kk (Q6 (f:=f.size::e.size::m.size::b) aU (by simp[u]) ⟨W.r,aX,bb,gp⟩ V al a_) (Z V) λac q M1 hs O aO ag=>?_
  have bx:=ag.aP
  intro be ap
  obtain⟨ar,-,bz⟩:=kT (M:=M1) (c:=be) (a:=ap) rfl rfl rfl
  clear_value ap
  have aw:=(F.fL TB.aO ag (by simp[u];omega)).ext TB.aO ar
  obtain⟨K,⟨D,i1,i2,i3,rfl,ha,-⟩,np⟩:=aw.kG Q
  have bg:=np 0 _ rfl;have bh:=np 1 _ rfl
  refine⟨V,fj,D,bg,V,fj,_,bh,V,fj,?_⟩
  obtain⟨wr,gs,-,br⟩:=aw.eB TB.aO (X:=List.range f.size) ⟨V,λv hb hn=>absurd (qQ.2 hb) hn⟩ (k:=i) V (a:=(x.1,some q)) (cs:=[.s D,.i x.1.bL,.i q.op,.i q.cE,.s ac]) ⟨D,_,_,_,rfl,ha,λe' az=>by simp at az;subst az;exact⟨rfl,rfl,jc.le ar.eU hs⟩⟩
  refine⟨wr,?_⟩
  intro az
  have bs:az.size=ap.size:=bD _ _ _ _
  have aH:Rs c d e (P+5+(n -(i+1))*(300+40*Cg 18)+300+40*Cg 18) az:=((W.to ag aO).ext ar).cB d2 (by show e.size<=f.size;omega) _ _
  refine⟨λv hb=>cg _ _ _ _ (by simp at hb;show v≠f.size;omega),⟨i,o.set i (x.1,some q),dt V V,V,gs,?_,λs au B bn=>?_,⟨aH.f,aH.r.aO V⟩,V⟩,?_⟩
  .rw[xZ,SY (by simp[Q]),hl]
  .rw[HZ]at B
   split at B
   .rename_i e';subst e';rw[ba V]at B;simp at B;subst B
    have:(t.take n).length=n:=aD
    grind
   .exact ak s au B V
  .rw[dt V V];show((i:Int) -1+1).toNat<((i:Int)+1).toNat;omega
 .have G:i=0:=V
  subst G
  have ag:Le (dg (e.size::m.size::b) g) (dg b (aV g m.size 0 [.s w,.s (.mk f.size 0 n 4)])):=dQ bO λj hc=>by simp[hc]
  have H:=F.rO TB.aO ax cH V
  have aS:(n -0)*(300+40*Cg 18)<=4*(300+40*Cg 18):=fg _ V
  have B:Rs c d m (P+5+(n -0)*(300+40*Cg 18)) g:=⟨F2.O W.f,W.r⟩
  have B:=B.cB G bW 0 [.s w,.s (.mk f.size 0 n 4)]
  have ap:(o.map λx=>(x.1,x.2.getD (.mk 0 0 []))).map (·.1)=t.take n:=by rw[List.map_map,<-hl];rfl
  refine⟨w,.mk f.size 0 n 4,A,o.map λx=>(x.1,x.2.getD (.mk 0 0 [])),rfl,ay.le ((W.f.eU (by simp[u])).O ((dQ bO λj hc=>by simp[hc]))),⟨fj,H.lZ,H.kA,λC au hy=>?_⟩,⟨by rw[ap];exact gp,λx Q=>?_⟩,B.r.aO V,B.f⟩
  .simp only[eu,jI]at hy
   obtain⟨Y,R,rfl⟩:=hy
   let⟨q,O,hf⟩:=ak C Y R (jb _)
   obtain⟨K,⟨D,i1,i2,i3,rfl,ha,hb⟩,am⟩:=H.kV C Y R
   obtain⟨rfl,rfl,al⟩:=hb q O
   exact⟨_,⟨D,i3,by simp[O],ha.le ag,by simp only[O,uv];exact jc.le ag al⟩,ag.kV am⟩
  .simp only[fu]at Q
   obtain⟨Y,R,rfl⟩:=Q
   let⟨C,D⟩:=cX.1 R
   let⟨q,O,hf⟩:=ak C Y D (jb _)
   simp only[O,uv,jq,a7];exact hf
end
@[grind cases] structure OI (S:ad) (m0 m:E) (lb:Nat) (s:N) (l:au) (sc:Nat):Prop where
 bT:dJ m lb oL [.s s,.i sc]
 gr:GS (lb::S) m0 m s l
 up:m0.size<=lb
def OI.ext{S:ad}{c m b:E}{a d:Nat}{s:N}{l:au}(h:OI S c m a s l d)(x:J m b):OI S c b a s l d:=⟨h.bT.ext x,h.gr.ext j9.aO x,h.up⟩
def OI.ne{S:ad}{b m:E}{a c:Nat}{s:N}{l:au}(h:OI S b m a s l c):s.bq≠a:=h.gr.ne h.bT cH
def LoP(S:ad)(f m:E)(c:Nat)(s:N)(P:au->Nat->Prop)(d:E):Prop:=∃a b e,OI S f d c a b e/\P b e/\Fz [c,s.bq] m d/\(a.bq=s.bq\/m.size<=a.bq)
def P8{S:ad}{k f:E}{b e:Nat}{s v C:N}{l:au}{x:eK}(p:OI S k f b s l e)(B:k.size<=f.size)(P:bd (dg (s.bq::b::S) f) v x.aN)(Q:rI (dg (s.bq::b::S) f) C x.dm)(q:l.length<=1000000)(hs:e<=1000000):
 bJ dN 318 [vp b 0,tr x v C] f λW T=>W=vi (e:Nat)/\LoP S k f b s (λc d=>c=l++[x]/\d=e+1) T:=by
 apply AG (b,0)
 simp -zeta only[dU]
 intro D
 obtain⟨i,s1⟩:=pu D
 clear_value D
 have j:=p.ext i
 have I:=j.bT.lt
 have aa:=p.bT.lt
 have ab:=p.gr.cD
 refine⟨s,j.bT.dz 0,?_⟩
 intro U
 have K:=px U
 refine⟨bB (K.bC _ I) _,?_⟩
 have g1:GS (b::S) (f.extract 0 k.size) D s l:=Gr.da j9.aO j.gr (λL q=>bu q) (by rw[vr B];exact bW)
 refine Gr.nA (g:=[.i 0,.i 0,.i 0,.s .nil,.s .nil]) (k:=x) j9.aO cH g1 (((J.QM B).O i).fz []) ⟨v,C,rfl,P.le i.eU,fU.le Q i.eU λ_ _=>vD.le i.eU⟩ V λn t G Z X F=>?_
 have z:dJ t b oL [.s s,.i e]:=j.bT.congr (F b I (ur j.ne))
 have R:=G.ne z cH
 refine⟨λc d=>?_,z.iQ bO,?_⟩
 .simp at d;subst d
  rw[F f.size V V,K.bC _ V]
 intro h
 have A:dJ h b oL [.s n,.i e]:=dJ.aV (m:=t) (o:=0) (r:=[.s n]) z
 have w:∀c,c≠b->h[c]? =t[c]? :=λc d=>cg _ _ _ _ d
 have s4:h.size=t.size:=bD _ _ _ _
 have M:eR ((e:Int)+1)=(e+1:Nat):=by rw[iC];rfl
 refine⟨λc d=>w c (by simp at d;omega),_,A.dz 1,A.iQ bO,?_⟩
 rw[M]
 intro u
 have H:dJ u b oL [.s n,.i (e+1:Nat)]:=dJ.aV (m:=h) (o:=1) (r:=[.i (e+1:Nat)]) A
 have y:∀c,c≠b->u[c]? =h[c]? :=λc d=>cg _ _ _ _ d
 have s5:u.size=h.size:=bD _ _ _ _
 refine⟨λc d=>y c (by simp at d;omega),_,H.dz 1,?_⟩
 have O:GS (b::S) k u n (l++[x]):=by
  refine Gr.da j9.aO (G.re j9.aO (Y:=[b]) ⟨V,λc d g=>?_⟩ bO (by simp;exact R) λc d=>bu d) (λL q=>bu q) (by rw[vr B];exact bW);have:c≠b:=sp g;exact(y c this).trans (w c this)
 refine⟨by rw[iC];congr 1;omega,n,_,_,⟨H,O,p.up⟩,⟨rfl,rfl⟩,⟨V,λc d g=>?_⟩,oh X.2⟩
 simp only[aY,mV,FO,Cj]at g
 rw[y c g.1,w c g.1,F c V g.2,i.bC c d]
section
variable{K D d b:Nat}{a:au}
@[grind cases] structure LW (ds:af) (nf sc:Nat) (nw:au) (K D sc':Nat):Prop where
 wl:WL ds nf False sc nw
 dd:sc'=sc+dc nw
 sz:sw nw<=K
 pF:sc'<=sc+D
def LW.cZ(b:af)(c a:Nat):LW b c a [] 0 0 a:=⟨.gD,bO,bO,V⟩
theorem LW.iG{c:af}{e f g:Nat}(h:LW c e f a K D g)(j:K<=d)(i:D<=b):LW c e f a d b g:=⟨h.wl,h.dd,oh h.sz,oh h.pF⟩
def LW.O{c:af}{e g h i:Nat}{f:au}(j:LW c e g a K D h)(k:LW c e h f d b i):LW c e g (a++f) (K+d) (D+b) i:=
 by constructor<;>grind [LW.wl,WL.fy,LW.dd,eZ,LW.sz,gH,LW.pF]
def LW.lW{b:af}{c a:Nat}{x:eK}(h:WS b c False a x):LW b c a [x] x.w 1 (a+1):=by constructor<;>grind [WL.lW,nH,xh,dn1,sw]
section
variable{S:ad}{e m f:E}{c g j:Nat}{s i:N}{l h:au}
def OI.jW(h:OI S e m c s l g)(b:J e m)(a:Fz [c,s.bq] m f):J e f:=by
 constructor<;>grind [OI.gr,Gr.cD,OI.up,Fz.ext,J.fz,N.bq,Fz.O,Fz.HW]
def OI.re{S' Y:ad}(h:OI S e m c s l g)(i:Fz Y m f)(d:∀b∈Y,b∈S/\b≠c/\b≠s.bq)(a:∀b∈S',b∈S\/m.size<=b):OI S' e f c s l g:=
 by constructor<;>grind [OI.bT,dJ.congr,Fz.bC,dJ.lt,OI.gr,Gr.re,j9.aO,List.mem_cons_of_mem,List.mem_cons_self,OI.up]
end
@[grind cases] structure LS (S:ad) (m0 m:E) (lb:Nat) (s:N) (l:au) (sc:Nat) (QS:N) (ev:ab):Prop where
 em:OI S m0 m lb s l sc
 x:J m0 m
 jW:∀c∈S,c<m.size
 QS:bd (dg [s.bq,lb] m) QS ev
 sm:∀y∈ev,0<=y/\y<(sc:Int)
def exV(e:Ex)(t:N):Value:=.agg #[vi e.op,vi e.cE,t.v]
def aaj(b:af)(h:Nat)(e:Ex):Prop:=∀(S:ad)(c m:E)(d:Nat)(s:N)(l:au)(f:Nat)(QS:N)(ev:ab)(g p t:N),LS S c m d s l f QS ev->WX b h ev.length e->f+4*e.n<=2000->ev.length+4*e.n<=2000->l.length+4*e.n<=2000->dq c g b->eP b->jc c t e.dm->
 bJ dN 285 [vp d 0,.agg #[g.v,p.v],exV e t,QS.v] m λv k=>∃r:Int,v=vi r/\LoP S c m d s (λj i=>∃a,j=l++a/\LW b h f a (3*e.n -1) e.n i/\0<=r/\r<(i:Int)) k
def aeQ(a:af)(f:Nat)(e:Ex):Prop:=∀(S:ad)(m:E)(b:Nat)(QS:N)(ev:ab)(d p t:N),(∀c∈S,c<m.size)->bd m QS ev->(∀y∈ev,0<=y/\y<(b:Int))->WX a f ev.length e->b+4*e.n<=2000->ev.length+4*e.n<=2000->dq m d a->eP a->jc m t e.dm->
 rl 256 [.agg #[d.v,p.v],exV e t,QS.v,vi b] m S λc=>WB a f False b c/\c.w<=3*e.n
def _root_.Go.Vc.Ex.RG(e:Ex):1<=e.n:=by rw[Ex.adO];omega
def HK{s:af}{v:Nat}{i:Ex}(j:aaj s v i):aeQ s v i:=by
 intro g u n QS ev B R X F I L N ac Y hd M K;apply Dg;simp -zeta only[dU];intro P e b c d;let⟨h,Z,s1,s2,s3⟩:=uy (a:=P) (c:=e) (d:=b) rfl rfl rfl;obtain⟨p,W⟩:=pu c;have E:GS ((b.size+1)::e.size::g) b c (.mk b.size 0 0 0) []:=by grind [Gr.bI]
 have f:=px d;have y:dJ d c.size oL [.s (.mk b.size 0 0 0),.i n]:=dJ.push _ _ _;clear_value d c b;have q:=(h.O p).O f;have z5:=f.aP;have G:∀r∈e.size::g,r<d.size:=dC F q.aP V;have O:OI (e.size::g) b d c.size (.mk b.size 0 0 0) [] n:=⟨y,W▸E.ext j9.aO f,V⟩;have hp:=i.RG;refine(j (e.size::g) b d c.size _ [] n QS ev B R X ⟨O,p.O f,G,(I.le (((h.O p).O f).dg (S:=[]) fj|>λj=>(Ej (m:=u)).O j)),L⟩ N V V cG (hd.le h.le) M (jc.le h.le K)).aO λae Q⟨w,D,x,l,ad,o6,⟨a,C,o,T,U⟩,t,b6⟩=>?_;subst C;have z:J u Q:=Fz.ext (((q.fz [c.size,b.size]).O t).HW λA k=>by simp at k;omega);refine⟨t.fq λA k=>by simp at k;simp;omega,w,D,x,o6.bT.dz 0,?_⟩;intro m7;have hz:=o.sz;have aa:=jH l;refine⟨x,.mk l w,rfl,iA.le (dQ bO λr H=>by simp[H]) (o6.gr.rO j9.aO (λH=>?_) cH (by show l.length<=_;omega)),⟨WB.of o.wl ⟨T,by rw[<-o.dd];exact U⟩,by rw[Bk.vB];omega⟩,z.aV V _ _⟩;have hy:=o6.gr.cD;have ab:=o6.ne;grind
end
section
variable{M c:E}{a o:Nat}
def T6{m:E}{t:N}{l:ax}(h:jc m t l){k:Nat}{x:Ex}(a:l[k]? =some x)(b:J m M):∃u,jc m u x.dm/\aR M t.bq (t.off+k*3)=some (vi x.op)/\aR M t.bq (t.off+k*3+1)=some (vi x.cE)/\aR M t.bq (t.off+k*3+2)=some u.v:=
 by grind [jc.D,J.aR]
def gx(x:J M c){v:Value}(h:aR M a o=some v):aR c a o=aR M a o:=by rw[x.aR h,h]
def gl(x:J M c)(h:a<M.size):aR c a o=aR M a o:=bB (x.bC a h) o
def ZA{q:af}{nf:Nat}{p cE:Int}{dm:ax}(ih:∀u∈dm,aaj q nf u):aaj q nf (.mk p cE dm):=by
 intro v Z D d B aa sc QS ev ai aj bh e hw bf a7 be hd ht hk;have P:=hw.cC;simp only[exV,Ex.abA,Ex.ZH,Ex.Xc,Ex.Yf]at*;apply yw (d,0);simp -zeta only[dU];intro am s;let⟨H,hl⟩:=fN (a:=am) (c:=s) rfl rfl;have s1:=pz am;have s2:s.size=D.size+2:=by simp[s,s1]
 clear_value s;have aG:=hk.aS;have bb:=hk.kA;have bc:=e.em.bT.lt;have h:=e.em.gr.cD;have eU:∀{M:E}{f:N},Fz [d,B.bq] D M->(f.bq=B.bq\/D.size<=f.bq)->Le (dg [B.bq,d] D) (dg [f.bq,d] M):=λab g=>ms λa aw hn=>by
  simp at hn;exact⟨by simp;rcases g with u|u<;>omega,ab.bC a aw fj⟩
 have st:∀{ao:ad}{M:E}{f:N}{l':au}{G:Nat},OI ao Z M d f l' G->Fz [d,B.bq] D M->(f.bq=B.bq\/D.size<=f.bq)->(∀l∈ao,l<M.size)->sc<=G->LS ao Z M d f l' G QS ev:=λo ab g hS hs=>⟨o,e.em.jW e.x ab,hS,e.QS.le (eU ab g),λy h=>⟨(e.sm y h).1,oh ((e.sm y h).2)⟩⟩;have fq:∀{M c:E}{f:N},s.size<=M.size->(f.bq=B.bq\/s.size<=f.bq)->Fz [d,f.bq] M c->gL [am.size,D.size] M c:=λhz g ab=>ab.fq λa aw=>by simp at aw;simp;omega
 have ah:∀{M c:E},s.size<=M.size->J M c->gL [am.size,D.size] M c:=λhz a3=>a3.fq λa g=>by simp at g;omega
 have fr:∀{M c:E}{f:N},Fz [d,B.bq] D M->(f.bq=B.bq\/s.size<=f.bq)->Fz [d,f.bq] M c->Fz [d,B.bq] D c:=λab g O=>ab.vX O λy h=>by simp at h⊢;omega
 refine⟨λak=>?_,λak=>⟨λag=>?_,λag=>⟨λal=>?_,λal=>?_⟩⟩⟩
 .simp only[bP]at ak;let⟨j,r⟩:=P.1.Z1 ak;have k:=e.QS.aS;let⟨y,w⟩:=dY ev cE.toNat;have i:=e.sm y (aZ w);exact⟨j,V,y,(gV.1 ((e.QS.le H.eU).D w)).2,y,rfl,B,aa,sc,e.em.ext H,⟨[],bO,(LW.cZ q nf sc).iG V V,i⟩,H.fz _,bu rfl⟩
 .simp only[bP]at ag;have h2:=P.1.MG ag;let⟨U,W⟩:=dY dm 0;let⟨j,i⟩:=dY dm 1;have aD:en dm=U.n+j.n:=by
   obtain⟨z,a,rfl⟩:∃z a,dm=[z,a]:=by
    match dm,h2 with
    |[z,a],_=>exact⟨z,a,rfl⟩
   simp at W i;subst W i;simp[en]
  have p0:=U.RG;have p1:=j.RG;let⟨u0,az,g0,g1,g2⟩:=T6 hk W (e.x.O H);refine⟨cH,V,_,g0,_,g1,_,g2,?_⟩;have S2:=st (e.em.ext H) (H.fz _) (bu rfl) (λl r=>oh (e.jW l r)) bW;refine(ih U (aZ W) v Z s d B aa sc QS ev ai aj u0 S2 (by have:=P.2 0 U W;simpa[xb]using this) V V V hd ht az).aO λT t⟨Q,aq,I,l3,R,o3,⟨ae,ap,w3,a1,a2⟩,f3,b3⟩=>⟨fq bW (bu rfl) f3,Q,aq,?_⟩;subst ap;have F3:=fr (H.fz _) (bu rfl) f3;have z3:=f3.aP;have X3:=e.em.jW e.x F3;let⟨u1,ar,k0,k1,k2⟩:=T6 hk i X3;have aM:=w3.pF;have aT:=jH ae;have a0:=w3.sz;refine⟨cH,V,_,k0,_,k1,_,k2,?_⟩;have S3:=st o3 F3 V (λl r=>oh (e.jW l r)) (oh w3.dd);have A:∀l∈[I.bq,d],l<t.size:=λl r=>by have:=o3.gr.cD;have:=o3.bT.lt;simp at r;omega
  intro F;have k:=px F;have av:bd (dg [I.bq,d] F) (.mk t.size 0 1 1) [Q]:=bd.jU bE A rfl rfl bO;clear_value F;refine⟨gx k k0,gx k k1,gx k k2,gl k V,gl k V,gl k V,?_⟩;have z4:=k.aP;refine(iy (S:=[I.bq,d]) (λl r=>k.lt (A l r)) (S3.QS.le k.eU) av fj).aO λT m5⟨K,l5,e5,g5,q5,C⟩=>⟨ah V C,K,e5,gx C (k.aR k0),gx C (k.aR k1),gx C (k.aR k2),gl C V,gl C V,gl C V,?_⟩;subst q5;have z5:=C.aP;have S5:LS v Z m5 d I (aa++ae) R K (ev++[Q]):=⟨(o3.ext k).ext C,(X3.O k).O C,λl r=>oh (e.jW l r),GI.cz g5 (λl r=>k.lt (A l r)) fj,λy h=>by
   rcases bR.1 h with h|h
   .have:=e.sm y h;have:=w3.dd;omega
   .simp at h;omega⟩
  refine(ih j (aZ i) v Z m5 d I (aa++ae) R K (ev++[Q]) ai aj u1 S5 (by have:=P.2 1 j i;simpa[xb,ag]using this) V fj fj hd ht ar).aO λT m6⟨r1,an,s6,l6,aC,o6,⟨ay,ac,w6,aA,aB⟩,L,b6⟩=>⟨fq V V L,r1,an,r1,rfl,s6,l6,aC,o6,⟨ae++ay,by rw[ac,nu],(w3.O w6).iG V V,aA,aB⟩,fr ((F3.bZ k).bZ C) V L,V⟩
 .simp only[eD,bP]at al;have h3:p=7->dm.length=3:=P.1.aev;have av:p=8->dm.length=1+(cT q cE).length/\0<(cT q cE).length:=P.1.lQ;have aQ:1<=dm.length:=by rcases al with i|i;have:=h3 i;omega;have:=av i;omega
  let⟨U,W⟩:=dY dm 0;have a9:en (dm.take 1)=U.n:=by have:=Oo W;simpa using this
  have a_:=W6 dm 1;have p0:=U.RG;let⟨u0,az,g0,g1,g2⟩:=T6 hk W (e.x.O H);refine⟨cH,V,_,g0,_,g1,_,g2,?_⟩;have S2:=st (e.em.ext H) (H.fz _) (bu rfl) (λl r=>oh (e.jW l r)) bW;refine(ih U (aZ W) v Z s d B aa sc QS ev ai aj u0 S2 (by have:=P.2 0 U W;simpa[xb]using this) V V V hd ht az).aO λT t⟨Q,aq,I,l3,R,o3,⟨ae,ap,w3,a1,a2⟩,f3,b3⟩=>⟨fq bW (bu rfl) f3,Q,aq,?_⟩;subst ap;have F3:=fr (H.fz _) (bu rfl) f3;have z3:=f3.aP;have X3:=e.em.jW e.x F3;have aM:=w3.pF;have aT:=jH ae;have a0:=w3.sz;have S3:=st o3 F3 V (λl r=>oh (e.jW l r)) (oh w3.dd);have ar:∀l∈I.bq::d::v,l<t.size:=dC (dC (m:=D) e.jW V o3.bT.lt) bW o3.gr.cD.2;intro F;obtain⟨k,s4⟩:=pu F;have g4:GB (I.bq::d::v) t F (.mk t.size 0 0 0) []:=GB.bI t;clear_value F;refine(ku (e:=[t.size]) fj (hd.le (X3.O k).le) ht cE).aO λT m5⟨cs,cl,ec,r,qc,C⟩=>⟨ah V C,cs,ec,?_⟩;subst qc;have a6:=r.aS;have z5:=C.aP;refine VH (g:=dm.length) (aG▸hk.kA) aQ (λj ks M=>∃A,GB (I.bq::d::v) t M ks A/\A.length+1=j/\(∀(ac:Nat)(a:Bk),A[ac]? =some a->WB q nf False (R+FR q p cE ac) a)/\bw A+3*U.n<=3*en (dm.take j)/\J t M/\Fz [t.size] m5 M/\(ks.bq=t.size\/m5.size<=ks.bq)) ⟨[],g4.ext vD.aO C,rfl,bO,fj,k.O C,nK,bu rfl⟩ ?_;rintro j ks M aJ μ ba hj ⟨A,O,aS,aH,aN,xM,fM,aF⟩ aA
  have zM:=xM.aP;have aE:=O.cD;have oM:=o3.bT.ext xM;refine dit (λi=>?_) λi=>?_
  .have ew:eR ((j:Int) -1)=((j -1:Nat):Int):=by rw[iC];omega
   refine⟨λaI c=>J M c/\aI=(FR q p cE (j -1):Nat),⟨λh8=>?_,λh8=>⟨di,by simp only[a8]at h8;rw[OT h8];rfl⟩⟩,?_⟩
   .simp only[bP]at h8;have ha:=av h8;let⟨y,w⟩:=dY (cT q cE) (j -1);rw[ew];refine⟨V,V,y,(gV.1 ((r.le (fM.eU bO)).D w)).2,?_⟩;refine(fS (e:=[]) (hd.le ((X3.O xM).le.O Ej)) ht y).aO λT m6⟨L,l6,e6,h6,q6,K⟩=>⟨ah V K,L,e6,K,?_⟩;subst q6;rw[OS h8 w,h6.aS]
   rintro aI m6 ⟨K,rfl⟩;let⟨u,he⟩:=dY dm j;have X6:=(X3.O xM).O K;let⟨aC,hu,k0,k1,k2⟩:=T6 hk he X6;have B6:=oM.ext K;have z6:=K.aP;refine⟨V,V,_,k0,_,k1,_,k2,_,B6.dz 1,_,B6.dz 1,?_⟩;have a4:=Vw ht p cE (j -1);have aP:=Oo he;have aO:=W6 dm (j+1);have aV:=u.RG;refine(oZ (S:=[]) (d:=m6) bO R (FR q p cE (j -1)) V).aO λT m7⟨s7,l7,e7,g7,q7,w⟩=>⟨ah V w,s7,e7,gx w (B6.dz 1),gx w k0,gx w k1,gx w k2,gl w V,gl w V,gl w V,?_⟩;have z7:=w.aP;have aL:bd (dg [] m7) QS ev:=(S3.QS.le ((((xM.O K).O w).eU).O fG)).le Ej;refine(iy (S:=[]) bO aL (GI.cz g7 bO V) V).aO λT m8⟨s8,l8,e8,g8,q8,L⟩=>⟨ah V L,s8,e8,gx L ((B6.ext w).dz 1),gx L (w.aR k0),gx L (w.aR k1),gx L (w.aR k2),gl L V,gl L V,gl L V,?_⟩;subst q8;have z8:=L.aP;have aR:(ev++l7).length=ev.length+FR q p cE (j -1):=by simp;exact q7.2
   rw[dt (b:=(R:Int)+(FR q p cE (j -1):Nat)) V V,show(R:Int)+(FR q p cE (j -1):Nat)=((R+FR q p cE (j -1):Nat):Int)by omega];have an:=(K.O w).O L;have aX:WX q nf (ev++l7).length u:=by
    have:=P.2 j u he;rw[aR];obtain⟨j',rfl⟩:∃j',j=j'+1:=⟨j -1,V⟩;have aK:xb q p cE (j'+1)=FR q p cE j':=aU (sp ag);rwa[aK]at this
   refine(HK (ih u (aZ he)) (ks.bq::I.bq::d::v) m8 _ s8 (ev++l7) ai aj aC (dC (λl r=>oh (ar l r)) bW V) ((GI.cz g8 bO V).le fG) (λy h=>?_) aX V V (hd.le ((X6.O w).O L).le) ht (jc.le ((X6.O w).O L).le hu)).aO λT m9⟨s9,b9,e9,h9,q9,x9⟩=>⟨ah V x9,s9,_,e9,?_⟩
   .rcases bR.1 h with h|h
    .have:=S3.sm y h;omega
    .have:=q7.1 y h;omega
   intro bg;have z9:=x9.aP;have a5:=xe A;refine GB.nA (c:=b9) ((O.ext vD.aO an).ext vD.aO x9) (((xM.O an).O x9).fz []) h9 V λaB c g' f' z' q'=>⟨λa g=>by
    have aD:a<t.size:=by simp at g;omega
    rw[f'.ext.bC a aD,(((xM.O an).O x9).cw _).bC a aD],aA V _ _ ⟨_,g',by rw[dj,List.length_singleton];omega,λac a hi=>?_,?_,f'.ext,(fM.bZ (an.O x9)).vX (Y:=[ks.bq]) ⟨z'.1,λa g hn=>q' a g (sp hn)⟩ (λy h=>by simp at h⊢;omega),oh fM.aP⟩⟩
   .rcases eJ ac A.length with ay|ay
    .rw[dX ay]at hi;exact aH ac a hi
    .rw[dL ay]at hi;have:ac -A.length=0:=by have:=bA hi;simp at this;omega
     rw[this]at hi;simp at hi;subst hi;have:ac=j -1:=V;subst this;exact q9.1
   .rw[sX,yK,DM];have:=q9.2;omega
  .have L:j=dm.length:=V;subst L;rw[fx]at aN;intro m6;have K:=px m6;have aI:bd (dg (I.bq::d::v) m6) (.mk M.size 0 1 1) [Q]:=bd.jU bE (λl r=>oh (ar l r)) rfl rfl bO;have z6:=K.aP;have aF:rI (dg (I.bq::d::v) m6) ks A:=rI.le K.eU (O.cz vD.aO ar cH (oh (xe A)));clear_value m6;have X6:=xM.O K;refine(P8 (x:=⟨p,cE,0,[Q],A⟩) (o3.ext X6) (X3.O X6).aP aI aF fj V).aO λT m7⟨aD,s7,l7,aK,o7,⟨an,ay⟩,w,b7⟩=>⟨fq V V w,R,aD,R,rfl,s7,l7,aK,o7,⟨ae++[⟨p,cE,0,[Q],A⟩],by rw[an,nu],?_,V,V⟩,fr (F3.bZ X6) V w,V⟩;have ws:WS q nf False R ⟨p,cE,0,[Q],A⟩:=⟨⟨bu (by show 0<=p/\p<=11;omega),fj,λ_=>rfl,⟨by show(0:Int)<=0;omega,by show(0:Int)<=_;omega⟩,λi=>by show A.length=2;have:=h3 i;omega,λi=>by show A.length=(cT q cE).length/\0<A.length;have:=av i;omega,λi=>by simp only at i;omega⟩,aH⟩;subst ay;exact(w3.O (LW.lW ws)).iG (by rw[eK.pD];simp only[dE,kD];omega) V
 .simp only[cU,a8]at al;simp only[a8]at ak ag;have ho:=P.1.o;intro t;have x3:=px t;have g3:GI [] s t (.mk s.size 0 0 0) []:=GI.gD [] s;have aF:t.size=s.size+1:=by simp[t]
  clear_value t;have o3:OI (s.size::v) Z t d B aa sc:=(e.em.ext H).re (x3.fz []) bO λa g=>(aY.1 g).elim (λi=>bG V) bu;refine gP (n:=dm.length) (aG▸hk.kA) (λj z M=>∃f G r l,OI (z.bq::v) Z M d f (aa++r) G/\LW q nf sc r (3*en (dm.take j) -j) (en (dm.take j)) G/\GI [] s M z l/\l.length=j/\(∀y∈l,0<=y/\y<(G:Int))/\Fz [d,B.bq] D M/\(f.bq=B.bq\/s.size<=f.bq)/\s.size<=M.size) ⟨B,sc,[],[],sp o3,(LW.cZ q nf sc).iG (jb _) (jb _),g3,rfl,bO,(H.O x3).fz _,bu rfl,V⟩ ?_;rintro j z M aJ μ hj ⟨f,G,r,l,o,w,O,aS,U,fM,g,zM⟩ aA
  have I:=e.em.jW e.x fM;have ae:=w.pF;have ay:=w.dd;have aE:=O.cD;have C:z.bq≠d:=O.ne o.bT cH;have PC:z.bq≠f.bq:=O.PC o.gr cH;have aD:=jH r;have ap:=w.sz;have aO:=W6 dm j;refine dit (λi=>?_) λi=>?_
  .let⟨u,he⟩:=dY dm j;let⟨aC,hu,k0,k1,k2⟩:=T6 hk he I;have aP:=Oo he;have az:=W6 dm (j+1);have aV:=u.RG;have an:=VE (dm.take j);rw[qO,my V]at an;refine⟨V,V,_,k0,_,k1,_,k2,?_⟩;have SM:=st o fM V (dC (m:=D) e.jW V aE.2) V;refine(ih u (aZ he) (z.bq::v) Z M d f (aa++r) G QS ev ai aj aC SM (by have:=P.2 j u he;rwa[aeB V V]at this) V V fj hd ht hu).aO λT F⟨aB,er,s4,l4,av,W,⟨ar,ac,w4,Q,r1⟩,A,b4⟩=>⟨fq zM g A,aB,er,?_⟩;subst ac;have z4:=A.aP;have F4:=fr fM g A;intro m5;have R:GI [] s F z l:=GI.jQ (c:=[d,f.bq]) ((GI.jQ (g:=[d,f.bq]) O).Pq ye.aO A (λ_ i=>i) (by simp;exact⟨C,PC⟩));have aq:z.bq≠s4.bq:=R.PC W.gr cH;refine GI.nA R (X:=List.range s.size) ⟨V,λa g hn=>absurd (qQ.2 g) hn⟩ V λa' c g' f' z' q'=>?_;have K:Fz [z.bq] F c:=⟨z'.1,λa g hn=>q' a g (sp hn)⟩;refine⟨λa g=>?_,aA V _ _ ⟨s4,av,r++ar,l++[aB],?_,(w.O w4).iG V V,g',fj,λy h=>?_,F4.vX K λy h=>by simp at h⊢;omega,V,V⟩⟩
   .simp at g;rw[q' a V V,(J.push F _).bC a V]
   .rw[<-nu];exact W.re K (by simp;exact⟨C,aq⟩) λa g=>(aY.1 g).elim (λu=>by subst u;rcases z'.2 with u|u;exact bu (by simp[u]);exact bG u) λi=>bu (aW _ i)
   .have:=w4.dd;rcases bR.1 h with h|h
    .have:=U y h;omega
    .simp at h;omega
  .have L:j=dm.length:=V;subst L;rw[fx]at w ae ap;have an:=VE dm;intro F;have k:=px F;have R:z.bq∉f.bq::d::v:=by
    simp only[aY,Cj];exact⟨PC,C,λi=>oh (e.jW _ i)⟩
   have ha:bd (dg (f.bq::d::v) M) z l:=(GI.jQ (g:=f.bq::d::v) O).rO ye.aO R cH V;have W:OI v Z M d f (aa++r) G:=o.re (Fz.cZ [] _) bO λa g=>bu (aW _ g);have z4:=k.aP;refine(P8 (x:=⟨p,cE,0,l,[]⟩) (W.ext k) (I.O k).aP (ha.le k.eU) pN fj V).aO λT m5⟨Q,s5,l5,ac,o5,⟨A,K⟩,u,b5⟩=>⟨fq V g u,G,Q,G,rfl,s5,l5,ac,o5,⟨r++[⟨p,cE,0,l,[]⟩],by rw[A,nu],?_,V,V⟩,fr (fM.bZ k) g u,V⟩;have ws:WS q nf False G ⟨p,cE,0,l,[]⟩:=⟨⟨bu (by show 0<=p/\p<=11;omega),U,λi=>by simp only at i;omega,⟨by show(0:Int)<=0;omega,by show(0:Int)<=_;omega⟩,λi=>by simp only at i;omega,λi=>by simp only at i;omega,P.1.jr⟩,bO⟩;subst K;exact(w.O (LW.lW ws)).iG (by rw[eK.pD];simp only[DM];omega) V
def ZB{a:af}{c:Nat}:∀e:Ex,aaj a c e:=Ex.ind λ_ _ _ b=>ZA b
end
def Mm{t:ad}{w:E}(hS:∀d∈t,d<w.size){T aj:N}{L:af}{O:aJ}(hd:dq w T L)(hp:acx w aj O)(aa:acC L O):zg 242 [.agg #[N.v T,N.v aj]] w t L λrs=>CH L rs False 95:=by
 apply Ff;simp -zeta only[kd,nJ];have ht:=wZ aa.gp.ds;intro h a2;let⟨K,hl⟩:=fN (a:=h) (c:=a2) rfl rfl;have s1:=pz h;clear_value a2;have aI:=hp.aS;have aU:O.length<=4:=by have:=aa.gp.pF;simpa using this
 have aT:0<O.length:=by have:=aa.gp.iT;simpa using this
 refine(jw (b:=h.size::t) (dC hS K.aP (hl _ bO)) (hd.le K.le) ht).aO λ_ aq⟨dd,e,aF,x3⟩=>?_;subst e;refine⟨x3.fq hl,_,rfl,?_⟩;intro k aN aA;have u2:=K.O x3;let⟨x5,B0,g0,s3,s5⟩:=nY (b:=k.size::h.size::t) kZ.aO (d:=aq) (a:=k) (c:=aN) (j:=aA) rfl rfl rfl;clear_value aA;have ag:∀d∈[h.size,w.size],d<aq.size:=λd g=>x3.lt (hl d g);have ay:∀d∈h.size::t,d<aq.size:=λd g=>x3.lt (dC hS K.aP (hl _ bO) d g);refine nO (R:=λb c A=>∃T Q rs,Value.agg #[N.v b,N.v c]=.agg #[N.v T,N.v Q]/\ir (dg t A) T Q L rs/\CH L rs False 95/\J w A) (q:=O.length) (f:=w) (b:=t) kZ.aO cH cH hS ⟨V,ag _ bO⟩ u2 s3 aF aI V x5 B0 g0 (λ_ q=>q.aX.length<=3/\q.cR.length<=3/\WB L O.length False q.aX.length q.eV/\q.eV.w<=95) (λb s l' m' h1 h2 c f j=>⟨b,s,l',rfl,⟨h1,h2,ht,V⟩,⟨V,λq hq=>by obtain⟨p,l⟩:=cX.1 hq;rw[c];exact f p q l⟩,j⟩) λac A y l' aD μ aG aQ xM aw ak aO=>?_
 let⟨q,hq⟩:=dY O ac aG;let⟨aM,aS⟩:=aa.Nw q (aZ hq);have aK:q.1.aX.length<=3:=(AW _ (aa.gp.eN q.1 (fu.2 ⟨q,aZ hq,rfl⟩))).1;have W:=u2.O xM;obtain⟨cs,⟨an,aC,rfl,ha,hk⟩,hr⟩:=hp.kV ac q hq;have az:=ha.aS;refine⟨V,V,_,W.aR (hr 0 _ rfl),_,W.aR (hr 1 _ rfl),_,W.aR (hr 2 _ rfl),_,W.aR (hr 3 _ rfl),_,W.aR (hr 4 _ rfl),?_⟩;intro m7 l;have hy:=aw.cD;have aP:=ak.lt;obtain⟨x8,-,s8⟩:=kT (M:=A) (c:=m7) (a:=l) rfl rfl rfl;clear_value l;have U:∀d∈[A.size,h.size,w.size],d<l.size:=λd g=>by
  rcases aY.1 g with e|e
  .omega
  .have:=ag d e;omega
 have w8:=W.O x8;have ae:∀{s:E},l.size<=s.size->∀d∈y.bq::k.size::h.size::t,d<s.size:=λax d g=>by
  simp only[aY]at g;rcases g with e|e|e|e
  .omega
  .omega
  .have:=ay d (by simp[e]);omega
  .have:=ay d (by simp[e]);omega
 have aB:∀{s:E},J l s->∀{am:ai},(∀D B f,bd f D B->B.length=q.1.aX.length->(∀b∈B,0<=b/\b<(q.1.aX.length:Int))->J s f->am (N.v D) f)->bJ dN 189 [vi 0,vi (an.len:Int)] s am:=λ{s} x am hk'=>by
  rw[az];exact(oZ (S:=[]) (d:=s) bO 0 q.1.aX.length V).aO λau f⟨D,B,e,gn,qn,xn⟩=>by
   subst e;exact hk' D B f ((GI.cz gn bO V).le fG) qn.2 (λb hy=>oh (qn.1 b hy)) xn
 have jW:∀{s:E}{av:ad}{D:N}{B:ab},(∀d∈av,d<s.size)->J l s->bd s D B->B.length=q.1.aX.length->(∀b∈B,0<=b/\b<(q.1.aX.length:Int))->rl 256 [.agg #[N.v T,N.v aj],.agg #[vi q.2.op,vi q.2.cE,N.v aC],N.v D,vi (an.len:Int)] s av λF=>WB L O.length False q.1.aX.length F/\F.w<=3*q.2.n:=λaE x X h1 h2=>by
  rw[az];exact HK (ZB q.2) _ _ q.1.aX.length _ _ T aj aC aE X h2 (by rw[h1];exact aM) V V (hd.le (w8.O x).le) ht (jc.le (w8.O x).le hk)
 have G:∀{v f:E}{F Y:Nat},l.size<=v.size->J v f->F<l.size->aR f F Y=aR v F Y:=λax x hb=>gl x V;have j:A.size<l.size:=V;have H:w.size<l.size:=U _ bO;refine⟨λF s=>∃p bq,F.2=0/\l.size<=F.1/\dJ s F.1 fm [.s p,.i bq.bL]/\iA (dg (y.bq::k.size::h.size::t) s) p bq.bz/\(WB L O.length False q.1.aX.length bq/\bq.w<=3*q.2.n)/\J l s,⟨?_,?_⟩,?_⟩
 .refine aB (J.cZ l) λD B I X Z ah b=>⟨b.fq U,D,rfl,G bW b j,G bW b j,G bW b j,G bW b H,G bW b H,?_,?_⟩;all_goals have u:=b.aP
  .refine(jW (av:=y.bq::k.size::h.size::t) (ae u) b X Z ah).aO λau C⟨p,bq,e,ar,aH,c⟩=>⟨c.fq λd g=>b.lt (U d g),p,_,e,?_⟩;have CE:=c.aP;intro P;have z:=px P;refine⟨G V z j,G V z j,G V z j,G V z H,G V z H,?_⟩;intro ap;let⟨al,ao,aL⟩:=kT (M:=C) (c:=P) (a:=ap) rfl rfl rfl;exact⟨p,bq,rfl,by show l.size<=C.size;omega,ao,iA.le al.eU ar,aH,(b.O c).O al⟩
  .intro C;have c:=px C;have al:dJ C I.size fm [.s .nil,.i 0]:=dJ.push _ _ _;have CE:=c.aP;clear_value C;refine⟨G u c j,G u c j,G u c j,G u c H,G u c H,?_⟩;refine(jW (av:=I.size::y.bq::k.size::h.size::t) (dC (ae u) CE al.lt) (b.O c) (X.ext c) Z ah).aO λau P⟨p,bq,e,ao,ar,z⟩=>⟨z.fq λd g=>?_,p,_,e,?_⟩
   .rcases aY.1 g with e|e
    .rw[e];exact al.lt
    .have:=U d e;omega
   intro ap;exact⟨p,bq,rfl,u,dJ.aV (m:=P) (o:=0) (r:=[.s p,.i bq.bL]) (al.ext z),iA.le (dQ bO λd g=>aW _ g) ao,ar,((b.O c).O z).aV u _ _⟩
 .intro I;have b:=px I;have B9:dJ I l.size fm [.s .nil,.i 0]:=dJ.push _ _ _;have u:=b.aP;clear_value I;refine⟨G bW b j,G bW b j,G bW b j,G bW b H,G bW b H,?_⟩;have sm:∀{v f:E},I.size<=v.size->J v f->gL [l.size,A.size,h.size,w.size] v f:=λax x=>x.fq λd g=>by
   rcases aY.1 g with e|e
   .have:=B9.lt;omega
   .have:=U d e;omega
  refine aB b λD B C X Z ah c=>⟨sm bW c,D,rfl,G u c j,G u c j,G u c j,G u c H,G u c H,?_⟩;have CE:=c.aP;refine(jW (av:=l.size::y.bq::k.size::h.size::t) (dC (ae (s:=C) V) bW (oh B9.lt)) (b.O c) X Z ah).aO λau P⟨p,bq,e,ao,ar,z⟩=>⟨sm CE z,p,_,e,?_⟩;intro ap;exact⟨p,bq,rfl,bW,dJ.aV (m:=P) (o:=0) (r:=[.s p,.i bq.bL]) ((B9.ext c).ext z),iA.le (dQ bO λd g=>aW _ g) ao,ar,((b.O c).O z).aV bW _ _⟩
 rintro⟨kb,Y⟩ v ⟨p,bq,ho,aH,BB,aL,ap,x1⟩;simp only at ho aH BB;subst ho;have bl:=BB.lt;have z1:=x1.aP;have Z:=x8.O x1;refine⟨y,(ak.ext Z).dz 1,_,BB.dz 0,_,BB.dz 1,?_⟩;have ah:k.size<l.size:=V;have j7:∀{f:E}{P b':N},J v f->bd (dg (y.bq::k.size::h.size::t) f) P q.1.aX->bd (dg (y.bq::k.size::h.size::t) f) b' []->aR (f.push (.cells (de [.s P,.s b',.i q.1.bL,.s p,.i bq.bL]) mE)) k.size 1=aR f k.size 1/\
  lS (f.push (.cells (de [.s P,.s b',.i q.1.bL,.s p,.i bq.bL]) mE)) mE [.s .nil,.s .nil,.i 0,.s .nil,.i 0] 88 y (N.mk f.size 0 1 1) λQ z=>gL [A.size,h.size,w.size] (f.push (.cells (de [.s P,.s b',.i q.1.bL,.s p,.i bq.bL]) mE)) z/\iQ z k.size 1 1/\(gL [A.size,h.size,w.size] z (aV z k.size 1 [.s Q])/\(aD (eR ((ac:Int)+1)) (aV z k.size 1 [.s Q])/\μ (eR ((ac:Int)+1)) (aV z k.size 1 [.s Q])<μ ac A)):=λK h1 h2=>
  Gr.bT (g:=[.s .nil,.s .nil,.i 0,.s .nil,.i 0]) (j:=1) (v:=88) (i:=[.s dd,.s y]) (u:=⟨q.1.aX,[],q.1.bL,bq⟩) kZ.aO cH ((aw.ext kZ.aO Z).ext kZ.aO K) (((xM.O Z).O K).fz []) ⟨_,_,p,rfl,h1,h2,iA.le K.eU aL⟩ V ((ak.ext Z).ext K) bO cH ⟨V,bO⟩ (λd g=>⟨by have:=U d g;have:=K.aP;omega,by
   rcases aY.1 g with e|e
   .omega
   .have:=ag d e;omega,by
   rcases aY.1 g with e|e
   .omega
   .have:=ag d e;omega⟩) λQ m' g' B' f' z' q'=>aO Q m' ⟨q.1.aX,[],q.1.bL,bq⟩ g' B' f'.ext ⟨aK,bO,ap.1,by have:=ap.2;show bq.w<=95;omega⟩
 have ao:∀{f:E},J v f->bd f an q.1.aX:=λx=>ha.ext ((W.O Z).O x);have al:∀{f:E},J v f->∀d∈y.bq::k.size::h.size::t,d<f.size:=λx=>ae (oh x.aP);have g1:∀{f z:E}{Y:Nat},J v f->J f z->aR z kb Y=aR f kb Y:=λx x'=>gl x' (oh x.aP);have ar:∀{f z:E},J v f->J f z->gL [A.size,h.size,w.size] f z:=λx x'=>x'.fq λd g=>by have:=U d g;have:=x.aP;omega
 refine⟨?_,?_⟩
 .refine(dA (y.bq::k.size::h.size::t) (ao di) V).aO λ_ I⟨P,la,e,ga,ea,b⟩=>⟨ar di b,P,e,g1 di b,g1 di b,G z1 b j,G z1 b ah,?_⟩;subst ea;have u:=b.aP;intro C;have c:=px C;refine⟨g1 b c,g1 b c,G V c j,G V c j,G V c ah,?_⟩;exact j7 (b.O c) ((GI.cz ga (al di) V).le c.eU) pN
 .intro I;have b:=px I;have u:=b.aP;refine⟨g1 di b,g1 di b,G z1 b j,G z1 b j,G z1 b ah,?_⟩;refine(dA (y.bq::k.size::h.size::t) (ao b) V).aO λ_ C⟨P,la,e,ga,ea,c⟩=>⟨ar b c,P,e,g1 b c,g1 b c,G V c j,G V c ah,?_⟩;subst ea;exact j7 (b.O c) (GI.cz ga (al b) V) pN
section
variable{L:ad}{K:Int->E->Prop}{v:Int}
def Ia(P:Nat->Prop)(l b:List Instr)(n:Nat):Prop:=∃a,b=l++a/\(∀(i:Nat)(x:Instr),a[i]? =some x->QO (l.length+i) x\/P (l.length+i)/\x.op=22)/\Vo a/\a.length<=n
section
variable{P c:Nat->Prop}{l a e:List Instr}{n b k:Nat}{x:Instr}
def qh.w(h:qh l a n):Ia P l a n:=let⟨g,b,c,d,e⟩:=h;⟨g,b,λi x f=>bu (c i x f),d,e⟩
def Ia.adC(h:Ia P l a n)(f:∀q,¬P q)(m:n<=b):qh l a b:=let⟨j,c,d,e,k⟩:=h;⟨j,c,λi x g=>(d i x g).resolve_right λh=>f _ h.1,e,V⟩
def Ia.MS(h:Ia P l a n)(g:∀q,P q->c q)(o:n<=b):Ia c l a b:=let⟨k,d,e,f,m⟩:=h;⟨k,d,λj x i=>(e j x i).imp id λh=>⟨g _ h.1,h.2⟩,f,V⟩
def Ia.aS(h:Ia P l a n):l.length<=a.length/\a.length<=l.length+n:=by obtain⟨b,rfl,-,-,d⟩:=h;simp;omega
def Ia.bZ(h:Ia P l a n)(f:qh a e b):Ia P l e (n+b):=by
 obtain⟨i,rfl,k,c,o⟩:=h;obtain⟨j,rfl,m,d,p⟩:=f;refine⟨i++j,bO,λr x q=>?_,λx g=>(bR.1 g).elim (c x) (d x),fj⟩;grind [Nat.lt_or_ge,List.length,List.getElem?_append_left,List.getElem?_append_right]
def Ia.ym(h:Ia P l a n)(i:P a.length):Ia P l (a++[⟨22,0,0,0,[],[]⟩]) (n+1):=by
 obtain⟨d,rfl,e,c,f⟩:=h;refine⟨d++[⟨22,0,0,0,[],[]⟩],bO,λj x g=>?_,λx b=>?_,fj⟩
 .grind [Nat.lt_or_ge,List.length,List.getElem?_append_left,List.getElem?_append_right,bA]
 .rcases bR.1 b with h|h
  .exact c x h
  grind
def Ia.eB(h:Ia P l a n)(b:l.length<=k)(m:QO k x)(e:x.aN.length<=10^12/\x.fQ.length<=10^12):Ia (λq=>P q/\q≠k) l (a.set k x) n:=by
 obtain⟨g,rfl,i,c,d⟩:=h;refine⟨g.set (k -l.length) x,by rw[List.set_append_right _ _ b],λo y j=>?_,λy f=>?_,fj⟩
 .grind [List.length]
 .rcases iS f with h|h
  .exact c y h
  .rw[h];exact e
def Ia.aim(h:Ia P l a n)(c:l.length<=k)(b:a[k]? =some x):Ia (λq=>P q/\q≠k) l (a.set k ⟨x.op,0,a.length,0,x.aN,x.fQ⟩) n:=by
 have m:=bA b;have f:=h;obtain⟨i,rfl,d,e,j⟩:=h;rw[dL c]at b;have g:=d _ x b;rw[show l.length+(k -l.length)=k by omega]at g;refine f.eB c ⟨λ_=>by show(k:Int)<((l++i).length:Nat);omega,λh=>?_⟩ (e x (aZ b));grind [QO.arg]
end
section
variable{S:ad}{e m a:E}{b:Nat}{s c:N}{l d:List Instr}
def Dz.re{S' Y:ad}(h:Dz S e m b s l)(g:Fz Y m a)(f:∀c∈Y,c∈S/\c≠b/\c≠s.bq)(d:∀c∈S',c∈S\/m.size<=c):Dz S' e a b s l:=
 by constructor<;>grind [Dz.bT,dJ.congr,Fz.bC,dJ.lt,Dz.gr,Gr.re,eS.aO,List.mem_cons_of_mem,List.mem_cons_self,Dz.up]
def LH(k:Dz S e m b s l)(z:J e m)(w:∀h∈S,h<m.size)(n:l.length<=10^12)(u:∀f∈L,f<m.size/\f≠b/\f≠s.bq){o i cE:Int}(y:∀c d a,Dz S e a b c d->d=l++[⟨o,i,cE,0,[v],[]⟩]->Fz [b,s.bq] m a->(c.bq=s.bq\/m.size<=c.bq)->K (l.length:Nat) a):
 bJ dN 191 [vp b 0,.agg #[vi o,vi i,vi cE,vi 0,N.v (.mk m.size 0 1 1),N.v .nil]] (m.push (.cells (de [.i v]) bE)) λr a=>gL L (m.push (.cells (de [.i v]) bE)) a/\∃q:Int,r=vi q/\K q a:=by
 have g:=J.push m (.cells (de [.i v]) bE)
 have D:=k.gr.cD;have C:=k.bT.lt
 have A:bd (dg (s.bq::b::S) (m.push (.cells (de [.i v]) bE))) (.mk m.size 0 1 1) [v]:=bd.jU bE (by
  intro h p;simp only[aY]at p;rcases p with j|j|j
  .omega
  .omega
  .exact w h j) rfl rfl bO
 refine(uN (x:=⟨o,i,cE,0,[v],[]⟩) (k.ext g) (z.O g).aP A xC n).aO λr a⟨p,c,d,t,j,h,B⟩=>⟨Tz.fq h λf n=>?_,_,p,?_⟩
 .have:=u f n;exact⟨g.lt this.1,this.2⟩
 exact y c d a t j.symm (((g.fz [b,s.bq])).O h) (oh g.aP)
def Zu(j:Dz S e m b s l)(t:J e m)(p:l.length<=10^12)(o:∀f∈L,f<m.size/\f≠b/\f≠s.bq)(q:∀c d a,Dz S e a b c d->d=l++[⟨22,0,0,0,[],[]⟩]->Fz [b,s.bq] m a->(c.bq=s.bq\/m.size<=c.bq)->K (l.length:Nat) a):
 bJ dN 191 [vp b 0,.agg #[vi 22,vi 0,vi 0,vi 0,N.v .nil,N.v .nil]] m λr a=>gL L m a/\∃n:Int,r=vi n/\K n a:=
 (uN (x:=⟨22,0,0,0,[],[]⟩) j t.aP xC xC p).aO λr a⟨i,c,d,k,h,f,g⟩=>⟨Tz.fq f o,_,i,q c d a k h.symm f g⟩
def YU{K:E->Prop}{k:Nat}{x:Instr}(i:Dz S e m b s l)(q:J e m)(p:l[k]? =some x)(n:∀f∈L,f<m.size/\f≠b/\f≠s.bq)(o:∀c d a,Dz S e a b c d->d=l.set k ⟨x.op,0,l.length,0,x.aN,x.fQ⟩->Fz [b,s.bq] m a->(c.bq=s.bq\/m.size<=c.bq)->K a):
 bJ dN 240 [vp b 0,vi k] m λ_ a=>gL L m a/\K a:=
 (Wn i q.aP p).aO λr a⟨c,d,j,h,f,g⟩=>⟨Tz.fq f n,o c d a j h.symm f g⟩
end
def V7{l:List Instr}{d:Int}:qh l (l++[⟨18,d,0,0,[v],[]⟩]) 1:=qh.lW ⟨sx,λ_=>bO⟩ bO
end
section
variable{b:List jS}
def Qa{F:af}{h:eK}(ch:h.op=7\/h.op=8)(ih:∀c∈h.dm,acr F b c):adb F b h:=by
 intro C H G d s z cons first cl fl aO a0 ay ai j ao co cy t ha hk
 apply yv (d,0);simp -zeta only[dU];intro ax ae;let⟨x2,hl⟩:=fN (a:=ax) (c:=ae) rfl rfl;have s1:=pz ax;have s2:ae.size=G.size+2:=by simp[ae,s1]
 clear_value ae;have cr:=j.em.bT.lt;have cI:=j.em.gr.cD;have cG:=eK.pD h;have ci:=ha.aS;have cx:=hk.aS;have cw:=xe h.dm;have cB:=ao.iL.lW V;have cp:=j.dS.aS;have eU:∀{g:E}{f:N},Fz [d,s.bq] G g->(f.bq=s.bq\/G.size<=f.bq)->Le (dg [s.bq,d] G) (dg [f.bq,d] g):=VD;have st:∀{aN:ad}{g:E}{f:N}{O:List Instr},Dz aN H g d f O->Fz [d,s.bq] G g->(f.bq=s.bq\/G.size<=f.bq)->(∀l∈aN,l<g.size)->XE aN H g d f O cons first cl fl:=λv K e hS=>⟨v,j.em.jW j.x K,hS,j.dS.le (eU K e),j.first.le (eU K e),j.bC,j.rU⟩
 have LL:∀{g:E}{f:N},ae.size<=g.size->(f.bq=s.bq\/ae.size<=f.bq)->∀c∈[ax.size,G.size],c<g.size/\c≠d/\c≠f.bq:=λhz e c aQ=>by simp at aQ;omega
 have fr:∀{g r:E}{f:N},Fz [d,s.bq] G g->(f.bq=s.bq\/ae.size<=f.bq)->Fz [d,f.bq] g r->Fz [d,s.bq] G r:=λK e aa=>K.vX aa λB p=>by simp at p⊢;omega
 have jW:∀{g:E},G.size<=g.size->∀l∈C,l<g.size:=λi l hc=>by have:=j.jW l hc;omega
 have aw:∀{w:Nat}{c:Bk}{g:E},h.dm[w]? =some c->J H g->∃L,iA H L c.bz/\aR g ai.bq (ai.off+w*2)=some L.v/\aR g ai.bq (ai.off+w*2+1)=some (vi c.bL):=λe a7=>let⟨L,h1,h2,h3⟩:=hk.D e;⟨L,h1,a7.aR h2,a7.aR h3⟩;refine⟨λh7=>?_,λh7=>?_⟩
 .simp only[bP]at h7;have aD:=ao.iL.MG h7;let⟨D,Q⟩:=dY h.dm 0;let⟨b1,T⟩:=dY h.dm 1;have bJ:bw h.dm=D.w+b1.w:=by
   obtain⟨u,y,m⟩:∃u y,h.dm=[u,y]:=by
    match h.dm,aD with
    |[u,y],_=>exact⟨u,y,rfl⟩
   rw[m]at Q T⊢;simp at Q T;subst Q T;simp[bw]
  have w0:=D.Nr;have w1:=b1.Nr;have ac:∀w,FR F h.op h.cE w=0:=λw=>OT V;have E2:=j.ext x2;refine(dA (s.bq::d::C) (ha.ext E2.x) V).aO λy P⟨a',la,m,ga,ea,Z⟩=>⟨Z.fq hl,a',m,?_⟩;subst ea;have z3:=Z.aP;have aE:∀l∈s.bq::d::C,l<ae.size:=dC (dC (jW (g:=ae) V) V V) bW V;refine(uN (x:=⟨20,0,0,0,h.aN,[]⟩) (E2.em.ext Z) (E2.x.O Z).aP (GI.cz ga aE (by show h.aN.length<=_;omega)) xC V).aO λy m4⟨ev,s4,l4,an,p4,f4,b4⟩=>⟨Tz.fq f4 (LL z3 (bu rfl)),_,ev,?_⟩;subst p4;have z4:=f4.aP;have F4:Fz [d,s.bq] G m4:=((x2.O Z).fz _).O f4;have w4:Ia (λ_=>False) z (z++[⟨20,0,0,0,h.aN,[]⟩]) 1:=(qh.lW ⟨sx,sx⟩ ⟨by show h.aN.length<=_;omega,bO⟩).w;let⟨t0,aF,g0,g1⟩:=aw Q (j.em.jW j.x F4);refine⟨cH,V,_,g0,_,g1,?_⟩;have ag:=ao.dm 0 D Q;rw[ac]at ag;have aI:=w4.aS;refine(ih D (aZ Q) C H m4 d s4 _ cons first cl fl aO a0 t0 (st an F4 V (jW V)) (sp ag) V V t aF).aO λy A⟨s5,l5,aP,p5,f5,b5⟩=>⟨Tz.fq f5 (LL V V),?_⟩;have F5:=fr F4 V f5;have z5:=f5.aP;have w5:=w4.bZ p5;have X5:=j.em.jW j.x F5;obtain⟨_,-,-,g5⟩:=aw Q X5;refine⟨cH,V,_,g5,?_⟩;have aJ:=w5.aS;refine LH aP X5 (jW V) V (LL V V) λs6 R m6 ap e6 f6 b6=>?_;have F6:=fr F5 V f6;have z6:=f6.aP;have w6:Ia (λ_=>False) z R (1+6*(D.w -1)+1):=e6▸w5.bZ V7;have aM:=w6.aS;have aS:R.length=l5.length+1:=by rw[e6];simp
  have X6:=j.em.jW j.x F6;refine Zu ap X6 V (LL V V) λs7 l7 m7 aq e7 f7 b7=>?_;have F7:=fr F6 V f7;have z7:=f7.aP;have w7:Ia (λq=>q=R.length) z l7 (1+6*(D.w -1)+1+1):=e7▸(w6.MS (λ_ i=>i.elim) bW).ym rfl;have aT:l7.length=R.length+1:=by rw[e7];simp
  let⟨I,ak⟩:=dY l7 z.length;refine YU aq (j.em.jW j.x F7) ak (LL V V) λs8 l8 m8 av e8 f8 b8=>?_;have w8:Ia (λq=>q=R.length) z l8 (1+6*(D.w -1)+1+1):=e8▸(w7.aim bW ak).MS (λ_ i=>i.1) bW;have aU:l8.length=l7.length:=by rw[e8];simp
  have U:=fr F7 V f8;have z8:=f8.aP;let⟨t1,aH,k0,k1⟩:=aw T (j.em.jW j.x U);refine⟨cH,V,_,k0,_,k1,?_⟩;have ah:=ao.dm 1 b1 T;rw[ac]at ah;refine(ih b1 (aZ T) C H m8 d s8 l8 cons first cl fl aO a0 t1 (st av U V (jW V)) (sp ah) V V t aH).aO λy m9⟨s9,l9,aB,p9,W,b9⟩=>⟨Tz.fq W (LL V V),?_⟩;have F9:=fr U V W;have z9:=W.aP;have w9:=w8.bZ p9;have X9:=j.em.jW j.x F9;obtain⟨_,-,-,g9⟩:=aw T X9;refine⟨cH,V,_,g9,?_⟩;have bQ:=w9.aS;have aV:l8.length<=l9.length:=by obtain⟨nw,m,-⟩:=p9;rw[m];simp
  refine LH aB X9 (jW V) V (LL V V) λbl Y aX al az au br=>?_;have aL:Ia (λq=>q=R.length) z Y (1+6*(D.w -1)+1+1+6*(b1.w -1)+1):=az▸w9.bZ V7;have ar:=fr F9 V au;have CE:=au.aP;have bT:Y.length=l9.length+1:=by rw[az];simp
  let⟨a5,aj⟩:=dY Y R.length;refine YU al (j.em.jW j.x ar) aj (LL V V) λaK aC a4 am aG aA bs=>?_;exact⟨aK,aC,am,aG▸(aL.aim V aj).adC (λq i=>i.2 i.1) V,fr ar V aA,V⟩
 .simp only[a8]at h7;have h8:h.op=8:=V;let⟨cv,cu⟩:=ao.iL.lQ h8;let⟨B,bg⟩:=dY h.aN 0;let⟨y0,y1⟩:=ao.iL.aN B (aZ bg);obtain⟨yn,rfl⟩:∃bV:Nat,B=bV:=⟨B.toNat,V⟩;have E2:=j.ext x2;refine⟨cH,V,yn,(ha.ext E2.x).D bg,?_⟩;have bU:∀l∈[s.bq,d],l<ae.size:=λl hc=>by simp at hc;omega
  refine(ku (e:=[s.bq,d]) bU (t.bQ.le E2.x.le) t.dh h.cE).aO λy P⟨aF,cb,ec,hc,qc,Z⟩=>⟨Z.fq hl,aF,ec,?_⟩;subst qc;have cq:=hc.aS;have z3:=Z.aP;intro m4;refine LH (E2.em.ext Z) (E2.x.O Z) (jW V) V (LL z3 (bu rfl)) λs5 l5 A aP e5 f5 b5=>?_;have z5:=f5.aP;have w5:Ia (λ_=>False) z l5 1:=e5▸(qh.lW ⟨sx,sx⟩ ⟨bO,bO⟩).w;have cN:l5.length=z.length+1:=by rw[e5];simp
  intro m6 m7;obtain⟨x6,s6⟩:=pu m6;obtain⟨x7,s7⟩:=pu m7;have bF:GI [] A m7 (.mk A.size 0 0 0) []:=(GI.gD [] A).ext x7;have bB:GI [] A m7 (.mk m6.size 0 0 0) []:=GI.da (GI.gD [] m6) (λ_ i=>i) x6.aP;clear_value m7 m6;have a9:=x6.O x7;have av:∀{g r:E}{f:N},Fz [d,s.bq] P g->(f.bq=s.bq\/P.size<=f.bq)->Fz [d,f.bq] g r->Fz [d,s.bq] P r:=λK e aa=>K.vX aa λB p=>by simp at p⊢;omega
  have F0:Fz [d,s.bq] G P:=(x2.O Z).fz _;have a_:∀{g:E}{f:N}{w:Nat}{l:Int},Fz [d,s.bq] P g->(f.bq=s.bq\/P.size<=f.bq)->(cT F h.cE)[w]? =some l->aR g aF.bq (aF.off+w*1)=some (vi l):=λ{g f w l} K e i=>(gV.1 ((hc.le (ms (c:=[f.bq,d]) (a:=g) λc aQ t=>by
   simp at t;exact⟨by simp;rcases e with m|m<;>omega,K.bC c aQ fj⟩)).D i)).2
  have bn:∀{g:E},A.size<=g.size->Fz (List.range A.size) A g:=λi=>⟨i,λc e t=>absurd (qQ.2 e) t⟩;have aj:∀{g r:E}{u:N}{ul:ab}{aE:ad},GI [] A g u ul->Fz aE g r->u.bq∉aE->GI [] A r u ul:=λ{g r u ul aE} aa K i=>GI.jQ ((GI.jQ (g:=aE) aa).Pq ye.aO K (λ_ i=>i) i);have o7:Dz (A.size::m6.size::C) H m7 d s5 l5:=aP.re (a9.fz []) bO λc e=>by
   grind
  refine Ba (j:=(cT F h.cE).length) V (λai L en g=>∃f O tl D,Dz (L.bq::en.bq::C) H g d f O/\Ia (λq=>(q:Int)∈D) z O (1+6*bw (h.dm.take ai))/\GI [] A g L tl/\tl.length=ai/\GI [] A g en D/\D.length<=ai/\(∀B∈D,∃q:Nat,B=q/\z.length<q/\q<O.length)/\L.bq≠en.bq/\Fz [d,s.bq] P g/\(f.bq=s.bq\/P.size<=f.bq)/\m7.size<=g.size/\z.length<O.length)
   ⟨s5,l5,[],[],o7,w5.MS (λ_ i=>i.elim) bO,bF,rfl,bB,bW,bO,by show A.size≠m6.size;omega,f5.bZ a9,V,bW,V⟩ ?_
  rintro U L en g b_ μ hj ⟨f,O,tl,D,v,a5,gt,cD,ge,ct,aT,cA,K,e,zM,cz⟩ bi
  have b8:=F0.O K;have ty:=gt.cD;have ey:=ge.cD;have t1:L.bq≠d:=gt.ne v.bT cH;have t2:L.bq≠f.bq:=gt.PC v.gr cH;have n1:en.bq≠d:=ge.ne v.bT cH;have n2:en.bq≠f.bq:=ge.PC v.gr cH;have cC:=v.gr.aS cH;have cF:=a5.aS;have bJ:=WJ h.dm U;have oy:=v.gr.cD;have cP:=v.bT.lt;refine dit (λi=>?_) λi=>?_
  .let⟨l,aS⟩:=dY (cT F h.cE) U;let⟨c,aB⟩:=dY h.dm U;have cm:=yL aB;have cn:=WJ h.dm (U+1);have ck:=c.Nr;have be:FR F h.op h.cE U=(cW F l).length:=OS h8 aS;have cj:=Vw t.dh h.op h.cE U;refine⟨f,v.bT.dz 0,?_⟩;intro m8;refine GI.nA gt (bn V) V λt' M1 aH cd z1 q1=>?_;have fa:Fz [L.bq] g M1:=⟨z1.1,λc e t=>q1 c e (sp t)⟩;refine⟨λc e=>by
    simp at e;rw[q1 c V V,(J.push g _).bC c V],?_⟩
   have f1:Fz [d,s.bq] P M1:=K.vX fa λB p=>by simp at p⊢;omega
   have bA:=aj ge fa fj;have o1:Dz (t'.bq::en.bq::C) H M1 d f O:=v.re fa (by simp;exact⟨t1,t2⟩) λc e=>by
    rcases aY.1 e with m|m
    .grind
    .exact bu (aW _ m)
   have b0:=aH.cD;refine⟨V,V,l,a_ f1 e aS,?_⟩;have X1:=j.em.jW j.x (F0.O f1);refine(fS (e:=[]) (t.bQ.le (X1.le.O Ej)) t.dh l).aO λy M2⟨ff,cg,ef,hf,qf,aD⟩=>⟨aD.fq λc e=>by simp at e;omega,ff,ef,?_⟩;subst qf;have bK:=hf.aS;have z2:=aD.aP;have f2:=f1.bZ aD;refine ik (n:=(cW F l).length) V (λw r=>∃aq ap,Dz (t'.bq::en.bq::C) H r d aq ap/\Ia (λq=>(q:Int)∈D) z ap (1+6*bw (h.dm.take U)+w)/\Fz [d,f.bq] M2 r/\(aq.bq=f.bq\/M2.size<=aq.bq)/\O.length<=ap.length) ⟨f,O,o1.ext aD,a5,nK,bu rfl,bW⟩ ?_;rintro w M3 I3 μ3 hi ⟨ag,l3,o3,w3,f3,b3,cK⟩ bX;have cS:=f3.aP;have F3:=av f2 e f3;have aI:ag.bq=s.bq\/P.size<=ag.bq:=V;have cE:=w3.aS;have X3:=j.em.jW j.x (F0.O F3);have LM:∀{r:E}{u:N},M3.size<=r.size->(u.bq=s.bq\/P.size<=u.bq)->∀c∈[ax.size,G.size],c<r.size/\c≠d/\c≠u.bq:=λhz e=>LL V V;have aJ:∀{r:E},M3.size<=r.size->∀l∈t'.bq::en.bq::C,l<r.size:=λi=>dC (dC (jW (g:=M3) V) bW V) i V;refine⟨λaU=>?_,λaU=>?_⟩
   .simp only[bh]at aU;intro m9;refine LH o3 X3 (aJ bW) V (LM bW aI) λs4 l4 M4 o4 e4 f4 b4=>bX V _ ⟨s4,l4,o4,?_,f3.vX f4 λB p=>by simp at p⊢;omega,V,by rw[e4];simp;omega⟩;rw[e4];exact w3.bZ (qh.lW ⟨sx,sx⟩ ⟨bO,bO⟩)
   simp only[dF]at aU;have aV:w=(cW F l).length:=V;subst aV;have y3:=o3.gr.cD;have ca:=o3.bT.lt;have ac:∀{r:E},M3.size<=r.size->∀l∈[ag.bq,d],l<r.size:=λi l hc=>by simp at hc;omega
   rw[bK];refine(oZ (S:=[ag.bq,d]) (ac bW) 0 (cW F l).length V).aO λy M4⟨s4,l4,e4,g4,q4,x4⟩=>⟨x4.fq λc e=>by simp at e;omega,s4,e4,?_⟩;have z4:=x4.aP;have h4:=GI.cz g4 (ac bW) V;let⟨tk,bN,k0,k1⟩:=aw aB (X3.O x4);have F4:=F3.bZ x4;have T:∀{u y:E},J M4 u->J u y->∀v,aR y ax.size v=aR u ax.size v/\aR y G.size v=aR u G.size v:=λay c v=>⟨gl c (oh ay.aP) (o:=v),gl c (oh ay.aP) (o:=v)⟩;refine⟨V,V,tk,k0,_,k1,V,V,l,a_ F4 aI aS,?_⟩;have S4:=st o3 (F0.O F3) V (aJ bW);have cf:=S4.first.aS;have cQ:=S4.bC;refine(y8 (S:=[ag.bq,d]) (ac z4) (S4.dS.le x4.eU) V (a:=yn) V l).aO λy M5⟨s5,cM,e5,g5,q5,Q⟩=>⟨Q.fq λc e=>by simp at e;omega,s5,e5,gx Q k0,gx Q k1,(T di Q _).1,(T di Q _).2,(T di Q _).2,?_⟩;have z5:=Q.aP;have h5:=GI.cz g5 (ac z4) (by rw[<-q5];simp;omega);refine(iy (S:=[ag.bq,d]) (ac V) h5 (h4.le Q.eU) (by rw[<-q5];simp;omega)).aO λy M6⟨a4,R,e6,g6,q6,ak⟩=>⟨ak.fq λc e=>by simp at e;omega,a4,e6,gx ak (Q.aR k0),gx ak (Q.aR k1),(T Q ak _).1,(T Q ak _).2,(T Q ak _).2,?_⟩;have z6:=ak.aP;have am:=Q.O ak;have h6:=GI.cz g6 (ac V) (by rw[<-q6,<-q5];simp;omega);refine(y8 (S:=[ag.bq,d]) (ac V) (S4.first.le ((x4.O am).eU)) V (a:=yn) V cons.len).aO λy M7⟨bY,l7,e7,g7,q7,ah⟩=>⟨ah.fq λc e=>by simp at e;omega,bY,e7,gx ah (am.aR k0),gx ah (am.aR k1),(T am ah _).1,(T am ah _).2,(T am ah _).2,?_⟩;have z7:=ah.aP;have an:=am.O ah;have bH:=GI.cz g7 (ac V) (by rw[<-q7];simp;omega);refine(iy (S:=[ag.bq,d]) (ac V) bH (h4.le an.eU) (by rw[<-q7];simp;omega)).aO λy M8⟨s8,l8,e8,g8,q8,I⟩=>⟨I.fq λc e=>by simp at e;omega,s8,e8,gx I (an.aR k0),gx I (an.aR k1),(T an I _).1,(T an I _).2,(T an I _).2,?_⟩;have z8:=I.aP;have bI:=GI.cz g8 (ac V) (by rw[<-q8,<-q7];simp;omega);have al:=(x4.O an).O I;have bf:R.length=cl.length+FR F h.op h.cE U:=by rw[<-q6,<-q5,be];simp;omega
   have bL:l8.length=R.length:=by rw[<-q8,<-q7,bf,be];simp;omega
   have ES:XE (t'.bq::en.bq::C) H M8 d ag l3 a4 s8 R l8:=⟨o3.ext al,X3.O al,aJ al.aP,h6.le ((ah.O I).eU),bI,bL,λB p=>by
    rw[<-q8]at p;rcases bR.1 p with p|p
    .rw[<-q7]at p;rcases iS p with p|p
     .exact j.rU B p
     .omega
    .have:=q4.1 B p;omega⟩
   have bS:WB F b.length True R.length c:=by rw[bf];exact ao.dm U c aB
   refine(ih c (aZ aB) _ H M8 d ag l3 a4 s8 R l8 aO a0 tk ES bS V V t bN).aO λy M9⟨s9,l9,o9,p9,W,b9⟩=>⟨Tz.fq W (LM (oh al.aP) aI),?_⟩;have z9:=W.aP;have cU:=al.aP;have F9:=av (F3.bZ al) aI W;have X9:=j.em.jW j.x (F0.O F9);have w9:=w3.bZ p9;have bQ:=w9.aS;have cL:l3.length<=l9.length:=by obtain⟨nw,m,-⟩:=p9;rw[m];simp
   obtain⟨_,-,-,g9⟩:=aw aB X9;refine⟨V,V,_,g9,?_⟩;refine LH o9 X9 (aJ V) V (LM V V) λbl Y a6 aX az au br=>?_;have CE:=au.aP;have ar:=av F9 V au;have aL:Ia (λq=>(q:Int)∈D) z Y (1+6*bw (h.dm.take U)+(cW F l).length+6*(c.w -1)+1):=az▸w9.bZ V7;have bT:Y.length=l9.length+1:=by rw[az];simp
   have kI:∀{u:N}{ul:ab},GI [] A M1 u ul->u.bq≠d->u.bq≠f.bq->u.bq<M1.size->GI [] A a6 u ul:=λ{u ul} aa a1 a2 a3=>by
    have g2:=aa.ext aD;have g3:=aj g2 f3 (by simp;exact⟨a1,a2⟩);have bv:=g3.ext al;have bx:=aj bv W (by simp;exact⟨a1,by rcases b3 with m|m<;>omega⟩);exact aj bx au (by simp;exact⟨a1,by rcases b9 with m|m<;>omega⟩)
   have bm:t'.bq≠d:=aH.ne o1.bT cH;have bZ:t'.bq≠f.bq:=aH.PC o1.gr cH;have bc:=kI aH bm bZ b0.2;have ba:=kI bA n1 n2 V;rw[dt (b:=(aF.len:Int) -1) V V];refine⟨λbM=>?_,λbM=>bi V _ _ _ ⟨bl,Y,tl++[(f.len:Int)],D,aX,aL.MS (λ_ i=>i) V,bc,fj,ba,V,λB p=>by obtain⟨q,m,h1,h2⟩:=aT B p;exact⟨q,m,h1,V⟩,V,ar,V,V,V⟩⟩;refine Zu aX (j.em.jW j.x (F0.O ar)) V (LM V V) λaK aC aM bj aG aA bs=>?_;have cR:=aA.aP;have bp:=av ar V aA;have b7:Ia (λq=>(q:Int)∈D++[(Y.length:Int)]) z aC (1+6*bw (h.dm.take U)+(cW F l).length+6*(c.w -1)+1+1):=aG▸(aL.MS (λq i=>bR.2 (bu i)) bW).ym bO;have cJ:aC.length=Y.length+1:=by rw[aG];simp
   have nx:∀{u:N}{ul:ab},GI [] A a6 u ul->u.bq≠d->GI [] A aM u ul:=λaa ay=>aj aa aA (by simp;exact⟨ay,aa.PC aX.gr cH⟩);have bC:=nx bc bm;have bb:=nx ba n1;intro cO;refine GI.nA bb (bn V) V λcc bq bz ce bo bk=>?_;have fb:Fz [en.bq] aM bq:=⟨bo.1,λc e t=>bk c e (sp t)⟩;have bt:en.bq≠aK.bq:=bb.PC bj.gr cH;refine⟨λc e=>by
    simp at e;rw[bk c V V,(J.push aM _).bC c V],bi V _ _ _ ⟨aK,aC,tl++[(f.len:Int)],D++[(Y.length:Int)],?_,b7.MS (λ_ i=>i) V,aj bC fb fj,fj,bz,fj,λB p=>?_,V,bp.vX fb λB p=>by simp at p⊢;omega,V,V,V⟩⟩
   .exact bj.re fb (by simp;exact⟨n1,bt⟩) λc e=>by
     simp only[aY]at e⊢;rcases e with m|m|m
     .exact bu (bu m)
     .rcases bo.2 with e'|e'
      .exact bu (bG (bu V))
      .exact bG V
     .exact bu (bG (bG m))
   .rcases bR.1 p with p|p
    .let⟨q,m,h1,h2⟩:=aT B p;exact⟨q,m,h1,V⟩
    .simp at p;exact⟨Y.length,p,V,V⟩
  .have ak:U=(cT F h.cE).length:=V;subst ak;refine⟨f,v.bT.dz 0,?_⟩;intro m8;obtain⟨I,s8⟩:=pu m8;have an:bd (dg (f.bq::d::C) m8) (.mk g.size 0 1 1) [(yn:Int)]:=bd.jU bE (dC (dC (jW (g:=g) V) bW V) bW V) rfl rfl bO;clear_value m8;refine⟨gl I V,gl I V,V,V,?_⟩;have Q:Dz C H m8 d f O:=(v.ext I).re (Fz.cZ [] _) bO λc e=>bu (aW _ (aW _ e));have ar:L.bq∉f.bq::d::C:=by
    simp only[aY,Cj];exact⟨t2,t1,λi=>oh (jW (g:=G) bW _ i)⟩
   have am:bd (dg (f.bq::d::C) m8) L tl:=(GI.jQ (g:=f.bq::d::C) (gt.ext I)).rO ye.aO ar cH V;obtain⟨wr,gs,-,Y⟩:=Q.gr.eB eS.aO (X:=List.range H.size) ⟨V,λc e t=>absurd (qQ.2 e) t⟩ (k:=z.length) V (a:=⟨21,0,h.cE,0,[(yn:Int)],tl⟩) (cs:=[.i 21,.i 0,.i h.cE,.i 0,.s (.mk g.size 0 1 1),.s L]) ⟨_,_,rfl,an,am⟩;refine⟨wr,?_⟩;intro m9;have s9:m9.size=m8.size:=bD _ _ _ _;have o9:Dz C H m9 d f (O.set z.length ⟨21,0,h.cE,0,[(yn:Int)],tl⟩):=⟨Q.bT.congr (Y d (ur Q.ne)),gs,Q.up⟩;have W:Fz [d,f.bq] g m9:=⟨V,λc e t=>by
    simp at t;have e1:m9[c]? =m8[c]? :=Y c t.2;rw[e1,I.bC c e]⟩
   have w9:=(a5.eB (x:=⟨21,0,h.cE,0,[(yn:Int)],tl⟩) (k:=z.length) bW ⟨sx,sx⟩ ⟨bO,by show tl.length<=_;omega⟩).MS (c:=λq=>(q:Int)∈D) (λ_ i=>i.1) bW;refine⟨λc e=>Y c (by simp at e;omega),?_⟩;have au:=ge.aS cH;refine ik (n:=D.length) V (λw r=>∃aq ap,Dz C H r d aq ap/\Ia (λq=>(q:Int)∈D.drop w) z ap (1+6*bw (h.dm.take (cT F h.cE).length))/\ap.length=O.length/\GI [] A r en D/\Fz [d,s.bq] P r/\(aq.bq=s.bq\/P.size<=aq.bq)/\m7.size<=r.size) ⟨f,_,o9,sp w9,bO,aj ge W (by simp;exact⟨n1,n2⟩),av K e W,e,V⟩ ?_;rintro w r I2 μ2 hi ⟨aq,l2,o2,w2,al,R,f2,b2,z2⟩ ap;refine dit (λi=>?_) λi=>?_
   .let⟨B,T⟩:=dY D w;obtain⟨q,rfl,az,aA⟩:=aT B (aZ T);have ah:bd (dg [] r) en D:=(GI.jQ (g:=[]) R).rO ye.aO bO cH V;have ag:=ah.le fG;let⟨xq,ac⟩:=dY l2 q;refine⟨V,V,q,ag.D T,?_⟩;refine YU o2 (j.em.jW j.x (F0.O f2)) ac (LL V V) λs4 l4 M4 o4 e4 f4 b4=>ap V _ ⟨s4,l4,o4,?_,by rw[e4];simp;exact al,aj R f4 (by simp;exact⟨n1,R.PC o2.gr cH⟩),av f2 b2 f4,oh f2.aP,oh f4.aP⟩;rw[e4];refine(w2.aim V ac).MS (λq' i=>?_) bW;let⟨h1,h2⟩:=i;rw[aac V]at h1;rcases aY.1 h1 with m|m
    .have:D[w]=(q:Int):=by have:=ph.1 T;exact this.2
     rw[this]at m;exact absurd V h2
    .exact m
   .have aV:w=D.length:=V;subst aV;rw[List.drop_length]at w2;exact⟨aq,l2,o2,w2.adC bO V,F0.O f2,V⟩
def Qg{c:af}:∀a:Bk,acr c b a:=Bk.ind λbz r f=>Qf λx e h=>Qa h λa d=>f x e a d
end
def qh.cF{l:List Instr}{n:Nat}(h:qh [] l n):XD l/\Vo l/\l.length<=n:=by
 obtain⟨e,rfl,b,c,d⟩:=h;exact⟨λk x a=>by have:=b k x a;simpa using this,c,d⟩
def Qj{c:ad}{t:E}(hS:∀d∈c,d<t.size){B ag:N}{Z:af}{rs:List jS}(P:ir t B ag Z rs){ak:Nat}(aw:CH Z rs True ak)(hW:ak<=120000000000):Vm 128 [.agg #[B.v,ag.v]] t c Z CI:=by
 apply IZ;simp -zeta only[dU];have ht:=P.dh;have hp:=P.lz;intro b a2;let⟨x2,hl⟩:=fN (a:=b) (c:=a2) rfl rfl;have s1:=pz b;clear_value a2;have aS:=hp.aS;have bk:=P.pF;have bj:=aw.iT;refine(jw (b:=b.size::c) (dC hS x2.aP (hl _ bO)) (P.bQ.le x2.le) ht).aO λ_ ac⟨dd,f,aP,x3⟩=>?_;subst f;refine⟨x3.fq hl,_,rfl,?_⟩;intro j a0 aB;have u2:=x2.O x3;let⟨x5,B0,g0,s3,s5⟩:=nY (b:=j.size::b.size::c) oB.aO (d:=ac) (a:=j) (c:=a0) (j:=aB) rfl rfl rfl;clear_value aB;have av:∀d∈[b.size,t.size],d<ac.size:=λd l=>x3.lt (hl d l);have ar:∀d∈b.size::c,d<ac.size:=λd l=>x3.lt (dC hS x2.aP (hl _ bO) d l);refine nO (R:=λg h s=>∃B p e,Value.agg #[g.v,h.v]=.agg #[B.v,p.v]/\dq (dg c s) B Z/\kY (dg c s) p e/\CI e/\J t s) (q:=rs.length) (f:=t) (b:=c) oB.aO cH cH hS ⟨V,av _ bO⟩ u2 s3 aP aS V x5 B0 g0 (λ_ q=>YP q) (λe r' ay m' g h u k o=>⟨e,r',ay,rfl,g,h,⟨V,V,λq hq=>by obtain⟨r,p⟩:=cX.1 hq;exact k r q p⟩,o⟩) λax s o ay bd μ aQ bi xM ap ai a4=>?_
 let⟨q,hq⟩:=dY rs ax aQ;let⟨q3,a9,a_,qw⟩:=aw.eN q (aZ hq);have F:=u2.O xM;obtain⟨cs,⟨be,k,ba,rfl,c1,c2,c3⟩,Q⟩:=hp.kV ax q hq;have aK:=c1.aS;have qp:=q.eV.Nr;refine⟨V,V,_,F.aR (Q 0 _ rfl),_,F.aR (Q 1 _ rfl),_,F.aR (Q 2 _ rfl),_,F.aR (Q 3 _ rfl),_,F.aR (Q 4 _ rfl),?_⟩;intro m7 e;have hy:=ap.cD;have bg:=ai.lt;obtain⟨x8,-,s8⟩:=kT (M:=s) (c:=m7) (a:=e) rfl rfl rfl;clear_value e;have w8:=F.O x8;have O:∀{I:E},e.size<=I.size->∀d∈o.bq::j.size::b.size::c,d<I.size:=λh d l=>by
  simp only[aY]at l;rcases l with f|f|f|f
  .omega
  .omega
  .have:=ar d (by simp[f]);omega
  .have:=ar d (by simp[f]);omega
 have bh:b.size<ac.size:=av _ bO;intro g z;obtain⟨x9,s9⟩:=pu g;obtain⟨aF,bq⟩:=pu z;have g9:GIn (g.size::o.bq::j.size::b.size::c) e g (.mk e.size 0 0 0) []:=Gr.bI _ bW;have aH:dJ z g.size sj [.s (.mk e.size 0 0 0)]:=dJ.push _ _ _;have aL:Dz (o.bq::j.size::b.size::c) e z g.size (.mk e.size 0 0 0) []:=⟨aH,g9.ext eS.aO aF,V⟩;clear_value z g;have al:=x9.O aF;have az:∀d∈[e.size,g.size],d<z.size:=λd l=>by simp at l;omega
 have LL:∀{I:E}{s':N},z.size<=I.size->(s'.bq=e.size\/z.size<=s'.bq)->∀k∈[s.size,b.size,t.size],k<I.size/\k≠g.size/\k≠s'.bq:=λhz y k aN=>by simp at aN;omega
 rw[aK];refine(oZ (S:=[e.size,g.size]) az 0 q.aX.length V).aO λ_ aA⟨U,ab,f,aM,aE,W⟩=>⟨W.fq λk y=>by simp at y;omega,U,f,?_⟩;have aq:=GI.cz aM az V;have bb:=W.aP;have aI:XE (o.bq::j.size::b.size::c) e aA g.size (.mk e.size 0 0 0) [] U U ab ab:=⟨aL.ext W,al.O W,O V,aq,aq,rfl,λp hy=>oh (aE.1 p hy)⟩;refine(Qg q.eV _ e aA g.size _ [] U U ab ab B ag ba aI (by rw[aE.2];exact a_) V fj (P.le w8.le) (iA.le w8.le c3)).aO λbs aU⟨br,bl,ae,aD,aa,aJ⟩=>⟨Tz.fq aa (LL bb (bu rfl)),?_⟩;have bw:=aa.aP;simp only[N.mP]at aJ aa;have am:J e aU:=Fz.ext ((((al.O W).fz [g.size,e.size]).O aa).HW λk y=>bG (by simp at y;omega));have a7:=aD.aS;intro bm;refine LH ae am (O V) (by simp at a7;omega) (LL V V) λA D u L an ao bf=>?_;have bx:=ao.aP;have bt:=ae.gr.cD;have X:J e u:=ae.jW am ao;have a8:qh [] D (6*q.eV.w):=an▸(aD.O (qh.lW (x:=⟨23,0,0,0,[q.eV.bL],[]⟩) ⟨sx,λ_=>bO⟩ bO)).iG V;let⟨a5,a6,bp⟩:=a8.cF;have aT:0<D.length:=by rw[an];simp
 have aj:=ai.ext (x8.O X);refine⟨o,aj.dz 1,A,L.bT.dz 0,A,L.bT.dz 0,?_⟩;have bv:=L.gr.cD;have a3:=L.ne;have a1:A.bq∉g.size::o.bq::j.size::b.size::c:=by
  simp only[aY,Cj];have l:=λh:A.bq∈o.bq::j.size::b.size::c=>O (I:=e) bW _ h;refine⟨a3,λh=>?_,λh=>?_,λh=>?_,λh=>?_⟩<;>have:=l (by simp[h])<;>omega
 have au:gR (dg (g.size::o.bq::j.size::b.size::c) u) A D:=L.gr.rO eS.aO a1 cH V;have G:∀{w K:E}{k aC:Nat},u.size<=w.size->J w K->k<u.size->aR K k aC=aR w k aC:=λh ah y=>gl ah V;have sm:∀{w K:E},u.size<=w.size->J w K->gL [s.size,b.size,t.size] w K:=λh ah=>ah.fq λk y=>by simp at y;omega
 have T:g.size<u.size:=V;have C:s.size<u.size:=V;have i3:j.size<u.size:=V;refine(dA (o.bq::j.size::b.size::c) (c1.ext (w8.O X)) V).aO λ_ bn⟨a',la,f,ga,ea,p⟩=>⟨sm bW p,a',f,G bW p T,G bW p C,G bW p T,G bW p C,G bW p C,G bW p i3,?_⟩;subst ea;have H:=p.aP;refine(dA (o.bq::j.size::b.size::c) (c2.ext ((w8.O X).O p)) V).aO λ_ aV⟨b',lb,f,gb,eb,r⟩=>⟨sm H r,b',f,G H r T,G H r C,G H r T,G H r C,G H r i3,?_⟩;subst eb;have bz:=r.aP;have aG:=p.O r;refine(Rh (m:=aV) (gR.ext aG (fU.le au fG λ_ _=>eS.le fG)) (q.aX.length:Nat)).aO λ_ aX⟨rg,f,_,v⟩=>⟨sm V v,rg,f,G V v T,G V v C,G V v i3,?_⟩;have bA:=v.aP;have Y:=aG.O v;intro bo;have aO:gR (dg (o.bq::j.size::b.size::c) aX) A D:=fU.le au ((Y.eU).O (kO _ λ_ h=>aW _ h)) λ_ _=>eS.le ((Y.eU).O (kO _ λ_ h=>aW _ h));have XX:=(x8.O X).O Y;refine Gr.bT (g:=[.s .nil,.s .nil,.i 0,.i 0,.s .nil]) (j:=1) (v:=88) (i:=[.s dd,.s o]) (u:=⟨q.aX,q.cR,q.bL,rg,D⟩) oB.aO cH (ap.ext oB.aO XX) ((xM.O XX).fz []) ⟨a',b',A,rfl,(GI.cz ga (O V) V).le ((r.O v).eU),(GI.cz gb (O V) V).le v.eU,aO⟩ V (aj.ext Y) bO cH ⟨V,bO⟩ (λd l=>?_) λr' m' g' B' f' z' q'=>a4 r' m' _ g' B' f'.ext ⟨q3,a9,aT,by show D.length<=_;omega,a5,a6⟩
 simp at l;omega
section
variable{l:ae}
def Mn{α:Type}(T:E->N->N->α->Prop):Prop:=∀M a b c x,Le M a->T M b c x->T a b c x
def PP{α:Type}(T:E->N->N->α->Prop)(U:α->Prop)(S:ad)(d:Nat)(e:N)(m:E)(P:Nat)(v:Value)(a:E):Prop:=∃b c x,v=.agg #[b.v,c.v]/\T (dg S a) b c x/\U x/\Rd d e P a/\Fz [d] m a
def NT(m:E)(a b:N)(x:af×List jS):Prop:=ir m a b x.1 x.2
def IT(m:E)(a b:N)(x:af×av):Prop:=dq m a x.1/\kY m b x.2
def GT(m:E)(a b:N)(x:af×aJ):Prop:=dq m a x.1/\acx m b x.2
def UN(c:Prop)(W:Nat)(x:af×List jS):Prop:=CH x.1 x.2 c W/\x.1∈vH
def UI(x:af×av):Prop:=CI x.2/\x.1∈vH
def NT.mn:Mn NT:=λ_ _ _ _ _ h t=>ir.le t h
def IT.mn:Mn IT:=λ_ _ _ _ _ h t=>⟨t.1.le h,kY.le h t.2⟩
@[grind cases] structure BS (B:ad) (rb:Nat) (bs:N) (m:E) (Q:Nat) (M:E):Prop where
 s:Rs rb bs m Q M
 jW:∀c∈B,m.size<=c/\c<M.size
section
variable{α:Type}{T:E->N->N->α->Prop}{U:α->Prop}{S B L:ad}{d Q g i k f t:Nat}{e a b:N}{m M c:E}{x:α}{h:ap}
def BS.hS(h:BS B d e m Q M)(a:∀c∈S,c<m.size):∀c∈B++S,c<M.size:=by grind [BS.jW,BS.s,Rs.f,Fz.aP]
def BS.to(h:BS B d e m Q M)(f:Fz [d] M c)(r:Rd d e g c):BS B d e m g c:=by constructor<;>grind [BS.s,Rs.to,BS.jW,Fz.aP]
theorem BS.lw(h:BS B d e m Q M)(a:d<m.size)(c:∀b∈L,b∈B):Lw d L M:=by grind [lw,BS.jW]
def BS.jr(i:BS B d e m Q M)(o:d<m.size)(p:∀b∈L,b∈B)(l:bJ dN f h M (PP T U (B++S) d e M g)){K:N->N->E->Prop}
 (q:∀a b x c,U x->T (dg (B++S) c) a b x->BS B d e m g c->Fz [d] M c->K a b c):bJ dN f h M λv c=>gL L M c/\∃j k:N,v=.agg #[j.v,k.v]/\K j k c:=
 l.aO λ_ c⟨a,b,x,n,t,u,r,f⟩=>⟨(i.lw o p).fq f,a,b,n,q a b x c u t (i.to f r) f⟩
def BS.lC(h:BS B d e m Q M)(g:d<m.size)(k:Q<=10^16)(j:∀b∈L,b∈B)(n:Int){K:Int->E->Prop}
 (l:∀i c,0<=i->(i<n\/i=0)->BS B d e m (Q+1) c->Fz [d] M c->K i c):bJ dN 74 [vp d 0,vi n] M λv c=>gL L M c/\∃i:Int,v=vi i/\K i c:=
 (dW h.s.r k n).aO λ_ c⟨i,a,o,p,r,f⟩=>⟨(h.lw g j).fq f,i,a,l i c o p (h.to f r) f⟩
def BS.bT{m1 m2:E}{z:ae}(h:BS B d e m Q M)(c:m1=M.push (.cells (de z) t))(f:m2=aV m1 M.size 0 l)(i:l.length=z.length):BS (M.size::B) d e m Q m2/\Le (dg (B++S) M) (dg (M.size::B++S) m2)/\dJ m2 M.size t l:=by
 let⟨x,a,z⟩:=kT c f i;have n:=h.s.f.aP;refine⟨⟨h.s.ext x,λj k=>?_⟩,x.dg λb g=>(aY.1 g).elim (λh=>bG V) bu,a⟩;grind [BS.jW]
def BS.cB(h:BS B d e m Q M)(b:Rd d e i m)(a:k∈B)(l:ae):BS B d e m Q (aV M k 0 l)/\Le (dg (B++S) M) (dg (B++S) (aV M k 0 l)):=
 ⟨⟨h.s.cB b (h.jW k a).1 _ _,λc f=>by rw[bD];exact h.jW c f⟩,dQ (by simp[a]) λ_ h=>h⟩
def BS.le(a:d∈S)(f:Fz [d] M c):Le (dg (B++S) M) (dg (B++S) c):=f.eU (by simp[a])
def BS.j7(h:BS B d e m Q M)(o:Mn T)(j:Rd d e i m)(p:k∈B)(q:T (dg (B++S) M) a b x)(r:U x)(n:Q<=g):PP T U S d e m g (.agg #[a.v,b.v]) (aV M k 0 l):=
 have⟨c,f⟩:=h.cB (S:=S) j p l
 ⟨a,b,x,rfl,o _ _ _ _ _ (f.O (kO _ λ_=>mM _)) q,r,c.s.r.aO n,c.s.f⟩
def BS.lW(a:Rd d e Q m){o:Obj}:BS [m.size] d e m Q (m.push o)/\Le (dg S m) (dg ([m.size]++S) (m.push o)):=⟨⟨⟨(J.push m o).fz _,a.ext (J.push m o)⟩,bO⟩,xk (J.push m o) bW⟩
def PD{a:af}{c:Prop}{W:Nat}(j:zg f h M S a λb=>CH a b c W)(hd:a∈vH)(r:Rd d e Q M):bJ dN f h M (PP NT (UN c W) S d e M Q):=
 j.aO λ_ _⟨g,k,b,i,n,o,x⟩=>⟨g,k,(a,b),i,n,⟨o,hd⟩,r.ext x,x.fz _⟩
def abx{a:af}(g:Vm f h M S a CI)(hd:a∈vH)(r:Rd d e Q M):bJ dN f h M (PP IT UI S d e M Q):=
 g.aO λ_ _⟨b,j,k,c,n,i,o,x⟩=>⟨b,j,(a,k),c,⟨n,i⟩,⟨o,hd⟩,r.ext x,x.fz _⟩
end
variable{S:ad}{m:E}{d P:Nat}{e:N}
def Ms(c:∀a∈S,a<m.size)(i:d∈S)(a:Rd d e P m)(D:P+1000+4*(300+40*Cg 18)<=10^16):bJ dN 222 [vp d 0] m (PP NT (UN False 95) S d e m (P+11+4*(300+40*Cg 18))):=by
 apply Fi (d,0);simp -zeta only[dU];have b:=a.lt;intro j;obtain⟨b1,-⟩:BS [m.size] d e m P j/\True:=⟨(BS.lW (S:=S) a).1,trivial⟩;clear_value j;refine b1.jr (T:=GT) (U:=λx=>acC x.1 x.2) (S:=S) b (λ_ h=>h) ((I6 (b1.hS c) (by simp[i]) b1.s.r V).aO λv M⟨g,p,f,l,k,n,o,q,r,s⟩=>⟨g,p,(f,l),k,⟨n,o⟩,q,r,s⟩) λg p x F u t b2 A=>?_;refine b2.jr (S:=S) b (λ_ h=>h) (PD (Mm (b2.hS c) (t.1.le fG) (fU.le t.2 fG λ_ _=>FuR.aO.le fG) u) u.gp.ds b2.s.r) λy J L G f t3 b3 B=>?_;intro r k;obtain⟨b5,q,-⟩:=b3.bT (S:=S) (m1:=r) (m2:=k) rfl rfl rfl;clear_value k;have s:=NT.mn _ _ _ _ _ q t3;refine b5.lC b V (λ_ h=>h) 3 λE H _ _ b6 o=>?_;have n:=NT.mn _ _ _ _ _ (BS.le i o) s;refine⟨λ_=>?_,λ_=>b6.j7 NT.mn a bO n f V⟩;exact b6.jr (S:=S) b (λ_ h=>h) (PD (NY (b6.hS c) (n.le fG) V f.1) f.2 b6.s.r) λz K M I w v h C=>h.j7 NT.mn a bO v w V
def IS(i:∀c∈S,c<m.size)(f:d∈S)(a:Rd d e P m)(L:P+1000+4*(300+40*Cg 18)<=10^16):bJ dN 193 [vp d 0] m (PP NT (UN True 104500) S d e m (P+12+4*(300+40*Cg 18))):=by
 apply BD (d,0);simp -zeta only[dU];have c:=a.lt;intro l;obtain⟨b1,-⟩:BS [m.size] d e m P l/\True:=⟨(BS.lW (S:=S) a).1,trivial⟩;clear_value l;refine b1.jr (S:=S) c (λ_ h=>h) (Ms (b1.hS i) (by simp[f]) b1.s.r V) λH T W O g t2 b2 J=>?_;intro w n;obtain⟨b4,v,-⟩:=b2.bT (S:=S) (m1:=w) (m2:=n) rfl rfl rfl;clear_value n;have p:=NT.mn _ _ _ _ _ v t2;refine b4.jr (S:=S) c (λ_ h=>h) (PD (Qd (b4.hS i) (p.le fG) g.1) g.2 b4.s.r) λI U X x F A b5 t=>?_;intro y o;obtain⟨q,k,-⟩:=b5.bT (S:=S) (m1:=y) (m2:=o) rfl rfl rfl;clear_value o;have B:=NT.mn _ _ _ _ _ k A;refine q.lC c V (λ_ h=>h) 4 λM Q _ _ b j=>?_;have C:=NT.mn _ _ _ _ _ (BS.le f j) B;refine⟨λ_=>?_,λ_=>b.j7 NT.mn a bO C F V⟩;have D:=NT.mn _ _ _ _ _ (((BS.le f t).O k).O (BS.le f j)) p;refine b.jr (S:=S) c (λ_ h=>h) (PD (UB (b.hS i) (D.le fG) g.1) g.2 b.s.r) λs z Y R G E r K=>?_;intro N;let⟨h,u⟩:=r.cB (S:=S) a (by simp:x.size∈_) [.s s,.s z];exact h.j7 NT.mn a bO (NT.mn _ _ _ _ _ u E) G V
end
section
variable{c:Prop}
@[grind cases] structure BF (S:ad) (rb:Nat) (bs:N) (m:E) (k Q W:Nat) (M:E):Prop where
 b:BS [k,m.size] rb bs m Q M
 x:∃d r x,dJ M k qM [.s d,.s r]/\NT (dg (k::m.size::S) M) d r x/\UN True W x
def UN.aO{W W':Nat}{x:af×List jS}(h:UN c W x)(f:W<=W'):UN c W' x:=⟨⟨h.1.iT,λq g=>let⟨a,b,d,e⟩:=h.1.eN q g;⟨a,b,d,fA e f⟩⟩,h.2⟩
section
variable{e d:ad}{g k Q Q' W W' i f:Nat}{h:N}{a M b:E}{K:E->Prop}{j:N->N->ap}
def BF.aO(b:BF e g h a k Q W M)(j:Q<=Q')(l:W<=W'):BF e g h a k Q' W' M:=⟨⟨⟨b.b.s.f,b.b.s.r.aO j⟩,b.b.jW⟩,let⟨i,r,x,d,f,c⟩:=b.x;⟨i,r,x,d,f,c.aO l⟩⟩
def BF.to(l:BF e g h a k Q W M)(n:g<a.size)(m:g∈e)(f:Fz [g] M b)(i:BS [k,a.size] g h a Q' b):BF e g h a k Q' W b:=
 let⟨j,r,x,d,t,c⟩:=l.x
 ⟨i,j,r,x,d.congr (f.bC k d.lt cG),NT.mn _ _ _ _ _ (BS.le (B:=[k,a.size]) m f) t,c⟩
def BF.lC(j:BF e g h a k Q W M)(l:g<a.size)(q:g∈e)(o:Q<=10^16)(m:∀c∈d,c∈[k,a.size])(n:Int){K:Int->E->Prop}
 (p:∀i b,BF e g h a k (Q+1) W b->K i b):bJ dN 74 [vp g 0,vi n] M λv b=>gL d M b/\∃i:Int,v=vi i/\K i b:=
 j.b.lC l o m n λi b _ _ c f=>p i b (j.to l q f c)
def BF.act(q:BF e g h a k Q W M)(w:Rd g h i a)(F:k≠a.size)(y:∀p∈d,p=a.size)
 (c:∀l n x,NT (dg (k::a.size::e) M) l n x->UN True W x->bJ dN f (j l n) M (PP NT (UN True W') (k::a.size::e) g h M Q'))
 (I:∀b,BF e g h a k Q' W' b->K b):∃z:N,aR M k 0=some z.v/\∃A:N,aR M k 1=some A.v/\bJ dN f (j z A) M λT b=>gL d M b/\∃t u:N,T=.agg #[t.v,u.v]/\iQ b k 0 2/\(gL d b (aV b k 0 [.s t,.s u])/\K (aV b k 0 [.s t,.s u])):=by
 let⟨l,n,x,B,J,P⟩:=q.x
 have G:=w.lt
 have V:=q.b.jW k bO
 refine⟨l,B.dz 0,n,B.dz 1,q.b.jr (S:=e) (L:=d) G (λp s=>by simp[y p s]) (c l n x J P) λp s U b R O C D=>?_⟩
 have v:=B.congr (D.bC k B.lt fj)
 let⟨b2,H⟩:=C.cB (S:=e) w (by simp:k∈_) [.s p,.s s]
 exact⟨v.iQ bO,λc E=>cg _ _ _ _ (by rw[y c E];exact ur F),I _ ⟨b2,p,s,U,dJ.aV (m:=b) (o:=0) (r:=[.s p,.s s]) v,NT.mn _ _ _ _ _ H O,R⟩⟩
def BF.cC(d:BF e g h a k Q W M)(j:Rd g h i a)(l:Q<=Q'):∃b:N,aR M k 0=some b.v/\∃c:N,aR M k 1=some c.v/\PP NT (UN True W) e g h a Q' (.agg #[b.v,c.v]) (aV M a.size 0 [.s b,.s c]):=
 let⟨f,r,_,B,t,u⟩:=d.x
 ⟨f,B.dz 0,r,B.dz 1,d.b.j7 NT.mn j bO t u l⟩
end
variable{e:ad}{a:E}{g P:Nat}{h:N}
def adR{f:Nat}{d:ap}{M:E}{Q:Nat}{a:af}{W:Nat}(k:YK f d M e g h Q a λb=>CH a b c W)(hd:a∈vH):bJ dN f d M (PP NT (UN c W) e g h M Q):=
 k.aO λ_ _⟨i,l,b,j,n,o,r,x⟩=>⟨i,l,(a,b),j,n,⟨o,hd⟩,r,x⟩
def W9(i:∀c∈e,c<a.size)(k:g∈e)(b:Rd g h P a)(f:P+4<=10^16){W:Nat}(j:W<=200000000000)(d r:N)(x:af×List jS)(t:NT (dg e a) d r x)(u:UN True W x):bJ dN 194 [vp g 0,.agg #[d.v,r.v]] a (PP NT (UN True (W+4)) e g h a (P+4)):=
 adR (UA i k b f t u.1 j) u.2
def GF(y:∀c∈e,c<a.size)(l:g∈e)(f:Rd g h P a)(Z:P+1000+4*(300+40*Cg 18)<=10^16):bJ dN 129 [vp g 0] a (PP NT (UN True 98289774148) e g h a (P+24+4*(300+40*Cg 18))):=by
 apply Au (g,0);simp -zeta only[dU];have k:=f.lt;intro A;have z1:=pz A;obtain⟨b1,-⟩:BS [a.size] g h a P A/\True:=⟨(BS.lW (S:=e) f).1,trivial⟩;clear_value A;refine b1.jr (S:=e) k (λ_ b=>b) (IS (b1.hS y) (by simp[l]) b1.s.r V) λD H J d I t2 b2 K=>?_;have z2:=K.aP;intro N G;let⟨b4,L,C⟩:=b2.bT (S:=e) (m1:=N) (m2:=G) rfl rfl rfl;clear_value G;have X:=NT.mn _ _ _ _ _ L t2;have p:d.size≠a.size:=V;have n:∀{M:E}{Q W:Nat},BF e g h a d.size Q W M->∀c∈d.size::a.size::e,c<M.size:=λb=>b.b.hS y;have F:g∈d.size::a.size::e:=by simp[l]
 refine⟨BF e g h a d.size (P+17+4*(300+40*Cg 18)) 104504,?_,λR U=>?_⟩
 .refine b4.lC k V (λ_ b=>b) 4 λz m5 _ _ b5 s=>?_;have t:=NT.mn _ _ _ _ _ (BS.le (B:=[d.size,a.size]) l s) X;have q:=C.congr (s.bC _ C.lt fj);refine⟨λ_=>b5.jr (S:=e) k (λ_ b=>b) (W9 (b5.hS y) F b5.s.r V V D H J t I) λi j x O Y T b6 v=>?_,λ_=>BF.aO ⟨b5,D,H,J,q,t,I⟩ V V⟩;intro R;let⟨u,w⟩:=b6.cB (S:=e) f (by simp:d.size∈_) [.s i,.s j];exact BF.aO ⟨u,i,j,x,dJ.aV (m:=O) (o:=0) (r:=[.s i,.s j]) (q.congr (v.bC _ q.lt fj)),NT.mn _ _ _ _ _ w T,Y⟩ V V
 refine⟨BF e g h a d.size (P+18+4*(300+40*Cg 18)) 10921086016,?_,λY O=>?_⟩
 .refine U.lC k l V bO 4 λz s q=>⟨λ_=>q.act f p bO (λi j x t u=>PD (LU (n q) (t.le fG) V u.1) u.2 q.b.s.r) λw b=>b.aO V V,λ_=>q.aO V V⟩
 refine O.lC k l V bO 3 λz aa q=>?_;refine⟨BF e g h a d.size (P+19+4*(300+40*Cg 18)) 98289774144,⟨λ_=>q.act f p bO (λi j x t u=>PD (Jl (n q) (t.le fG) V u.1) u.2 q.b.s.r) λw b=>b.aO V V,λ_=>q.aO V V⟩,λab s=>?_⟩;refine⟨BF e g h a d.size (P+19+4*(300+40*Cg 18)) 98289774144,⟨λ_=>s.act f p bO (λi j x t u=>PD (Ri (n s) (t.le fG) V u.1) u.2 s.b.s.r) λw b=>b.aO V V,λ_=>s.aO V V⟩,λac T=>?_⟩;refine T.lC k l V bO 6 λz ad v=>⟨λ_=>v.act f p bO (λi j x t u=>W9 (n v) F v.b.s.r V V i j x t u) λw b=>b.cC f V,λ_=>(v.aO (Q':=P+24+4*(300+40*Cg 18)) (W':=98289774148) V V).cC f V⟩
def Mc(j:∀c∈e,c<a.size)(l:g∈e)(d:Rd g h P a)(B:P+1000+4*(300+40*Cg 18)<=10^16):bJ dN 73 [vp g 0] a (PP IT UI e g h a (P+25+4*(300+40*Cg 18))):=by
 apply EQ (g,0);simp -zeta only[dU];have f:=d.lt;intro m;obtain⟨b1,-⟩:BS [a.size] g h a P m/\True:=⟨(BS.lW (S:=e) d).1,trivial⟩;clear_value m;refine b1.jr (S:=e) f (λ_ b=>b) (GF (b1.hS j) (by simp[l]) b1.s.r V) λv H K D o t2 b2 y=>?_;refine b2.jr (S:=e) f (λ_ b=>b) (abx (Qj (b2.hS j) (t2.le fG) o.1 V) o.2 b2.s.r) λw I L E i t3 b3 z=>?_;intro r n;obtain⟨b5,q,-⟩:=b3.bT (S:=e) (m1:=r) (m2:=n) rfl rfl rfl;clear_value n;have s:=IT.mn _ _ _ _ _ q t3;refine b5.lC f V (λ_ b=>b) 3 λC F _ _ b6 p=>?_;have k:=IT.mn _ _ _ _ _ (BS.le l p) s;refine⟨λ_=>?_,λ_=>b6.j7 IT.mn d bO k i V⟩;exact b6.jr (S:=e) f (λ_ b=>b) (abx (Mx (b6.hS j) (k.1.le fG) (wZ i.2) (kY.le fG k.2) i.1) i.2 b6.s.r) λx J M G u t b A=>b.j7 IT.mn d bO t u V
end
section
variable{b:ae}{x:Instr}
section
variable{S:ad}{m M:E}{a P Q:Nat}{c:N}
def HN(h:Rs a c m Q M)(i:Q<=10^16)(d:ab){n:Nat}(j:b=d.map Ce.i)(p:n=d.length)(o:0<d.length/\d.length<=100):
 bJ dN 77 [vp a 0,N.v (.mk M.size 0 n n)] (M.push (.cells (de b) bE)) λv e=>∃t:Int,v=vi t/\t∈d/\Rs a c m (Q+1) e/\Fz [a] (M.push (.cells (de b) bE)) e:=by
 have x:=J.push M (.cells (de b) bE)
 have s:=h.r.lt
 refine(nX (h.ext x).r i (bd.jU bE (l:=d) cG j p V) o.1).aO λv e⟨q,g,k,r,f⟩=>⟨q,g,k,(h.ext x).to f r,f⟩
def _root_.Go.Vc.Gr.Pr{b c:E}{s:N}{l:ab}(h:GI S b M s l)(f:Fz [a] M c)(d:a<b.size):GI S b c s l:=have:=h.cD;GI.lR h (f.bC _ this.2 cG)
def AM(j:Rd a c P m)(hP:P+10<=10^16){D:N}{l:ab}(S:bd m D l)(hb:l.length<=10^12):bJ dN 133 [vp a 0,D.v] m λaa n=>∃s b,aa=s.v/\GI [] m n s b/\b.length<=l.length+1/\(∀w∈b,w∈l\/-1<=w/\w<=1001)/\Rd a c (P+3) n/\Fz [a] m n:=by
 apply wR (a,0);have g:=j.lt;refine(dA [] S V).aO λ_ W⟨s,b,e,i,I,G⟩=>⟨s,e,?_⟩;subst I;have ac:=i.aS cH;have o:Rs a c m P W:=⟨G.fz _,j.ext G⟩;have j7:∀{M:E}{Q:Nat},Rs a c m Q M->Q<=P+2->GI [] m M s l->bJ dN 77 [vp a 0,N.v (.mk M.size 0 5 5)] (M.push (.cells (de [.i 0,.i 1,.i 2,.i (-1),.i 1000]) bE)) λr q=>∃h:Int,r=vi h/\
  lS (q.push (.cells (de [.i h]) bE)) bE [.i 0] 8 s (.mk q.size 0 1 1) λt p=>∃s b,t.v=s.v/\GI [] m p s b/\b.length<=l.length+1/\(∀w∈b,w∈l\/-1<=w/\w<=1001)/\Rd a c (P+3) p/\Fz [a] m p:=λ{M Q} rM hQ gM=>
  (HN rM V [0,1,2,-1,1000] rfl rfl bO).aO λ_ q⟨t,e,B,f,d⟩=>⟨t,e,by
   have g2:=(gM.ext (J.push M _)).Pr d g;refine GI.nA g2 f.f V λr n L v z' Y=>⟨r,_,rfl,L,bO,λw C=>?_,?_,v⟩
   .grind
   .exact(j.Bj f.r v (Y a f.r.lt (oh g2.cD))).aO V⟩
 refine⟨λR=>?_,λ_=>j7 o V i⟩;simp only[bh]at R;refine(dW o.r V 2).aO λ_ m2⟨T,e,_,_,u,d⟩=>⟨T,e,λ_=>?_,λ_=>j7 (o.to d u) V (i.Pr d g)⟩;have f:=o.to d u;refine(dW f.r V (s.len:Int)).aO λ_ X⟨h,e,U,k1,H,x⟩=>⟨h,e,?_⟩;refine(HN (f.to x H) V [0,1,-1,7,1000,1001] rfl rfl bO).aO λ_ m5⟨t,e,B,F,K⟩=>⟨t,e,U,V,?_⟩;have z:=(((i.Pr d g).Pr x g).ext (J.push X _)).Pr K g;let⟨w,O,y,Z⟩:=z.eB F.f (k:=h.toNat) V t;refine⟨w,s,_,rfl,O,bO,λw C=>?_,(j.Bj F.r y (Z a (oh z.cD))).aO V,y⟩;rcases iS C with A|A
 .exact bu A
 .simp at B;exact bG V
def IX(Z:ad)(a:Nat)(c:N)(m:E)(P:Nat)(U:Instr->Prop)(v:Value)(b:E):Prop:=∃x d j,v=inV x d j/\bd (dg Z b) d x.aN/\bd (dg Z b) j x.fQ/\U x/\Rd a c P b/\Fz [a] m b
def Ax(S:ad){o s:N}(u:bd m o x.aN)(v:bd m s x.fQ)(r:x.aN.length<=10^12/\x.fQ.length<=10^12):
 bJ dN 199 [inV x o s] m λy k=>∃c d,y=inV x c d/\GI S m k c x.aN/\GI S m k d x.fQ/\c.bq≠d.bq/\J m k:=by
 apply vy
 simp -zeta only[dU]
 intro l g
 let⟨e,j⟩:=fN (a:=l) (c:=g) rfl rfl
 have D:=pz l
 clear_value g
 have b:∀{M n:E},J g M->J M n->∀t,aR n m.size t=aR M m.size t:=by grind [bB,J.bC,J.lt]
 refine(dA S (u.ext e) r.1).bK (J.cZ g) j λc _ A p h a _=>⟨_,rfl,b di a _,b di a _,b di a _,b di a _,b di a _,?_⟩
 subst h
 refine(dA S (v.ext (e.O a)) r.2).bK a j λd _ B q h f w=>⟨_,rfl,b a f _,b a f _,b a f _,b a f _,?_⟩
 subst h
 intro C
 have F:=p.cD;have G:=q.cD
 have z:=j l.size bO
 exact⟨c,d,rfl,((p.ext f).lR (cg _ _ _ _ V)).da (λ_ i=>i) e.aP,(q.lR (cg _ _ _ _ V)).da (λ_ i=>i) (e.O a).aP,V,(e.O w).aV V _ _⟩
end
@[grind cases] structure BI (a0:E) (k rb:Nat) (bs:N) (m:E) (Q:Nat) (M:E) (a j:N) (l l':ab):Prop where
 ga:GI [] a0 M a l
 gj:GI [] a0 M j l'
 ne:a.bq≠j.bq
 s:Rs rb bs m Q M
 lo:m.size+2<=a0.size/\l.length<=1000000000001/\l'.length<=1000000000001
 hi:a.bq≠k/\j.bq≠k/\m.size<=k/\k<M.size
section
variable{Z L:ad}{g m M d:E}{c k P h Q i:Nat}{e a j:N}{l f:ab}
def BI.to(h:BI g k c e m Q M a j l f)(n:c<m.size)(b:Fz [c] M d)(r:Rd c e i d):BI g k c e m i d a j l f:=
 have:=h.lo
 ⟨h.ga.Pr b V,h.gj.Pr b V,h.ne,h.s.to b r,h.lo,h.hi.1,h.hi.2.1,h.hi.2.2.1,cp h.hi.2.2.2 b.aP⟩
def BI.cB(h:BI g k c e m Q M a j l f)(d:Rd c e P m){o:Nat}{b:ae}:BI g k c e m Q (aV M k o b) a j l f:=
 have:=h.lo;have:=h.hi;have:=h.ga.cD
 ⟨GI.lR h.ga (cg _ _ _ _ V),GI.lR h.gj (cg _ _ _ _ V),h.ne,h.s.cB d V _ _,h.lo,by rw[bD];exact h.hi⟩
def BI.j7{U:Instr->Prop}(d:BI g k c e m Q M a j l f)(v:Rd c e P m)(t:∀i∈Z,i<m.size){o:Nat}(y:o=m.size+1)(w:Q<=h){s p n r:Int}(x:U ⟨s,p,n,r,l,f⟩):IX Z c e m h U (.agg #[vi s,vi p,vi n,vi r,a.v,j.v]) (aV M o 0 b):=by
 have:=d.lo;have:=d.hi;have z:=d.ga.cD;have A:=d.gj.cD;have u:=d.s.cB v (k:=o) V 0 b;exact⟨⟨s,p,n,r,l,f⟩,a,j,rfl,Gr.cz ye.aO (GI.jQ (GI.lR d.ga (cg _ _ _ _ V))) (λi q=>oh (t i q)) cH (fA d.lo.2.1 cH),Gr.cz ye.aO (GI.jQ (GI.lR d.gj (cg _ _ _ _ V))) (λi q=>oh (t i q)) cH (fA d.lo.2.2 cH),x,u.r.aO w,u.f⟩
def BI.lC(h:BI g k c e m Q M a j l f)(r:c<m.size)(t:Q<=10^16)(s:∀b∈L,m.size<=b/\b<=k)(p:Int){K:Int->E->Prop}
 (v:∀i d,0<=i->(i<p\/i=0)->BI g k c e m (Q+1) d a j l f->(∀o,aR d k o=aR M k o)->Fz [c] M d->K i d):bJ dN 74 [vp c 0,vi p] M λz d=>gL L M d/\∃i:Int,z=vi i/\K i d:=
 have:=h.lo;have:=h.hi;have:=h.ga.cD
 (dW h.s.r t p).aO λ_ d⟨i,q,w,x,y,n⟩=>⟨n.fq λb u=>by have:=s b u;simp;omega,i,q,v i d w x (h.to r n y) (λo=>bB (n.bC k h.hi.2.2.2 cG) o) n⟩
end
def YH(x y:Instr):Prop:=(∀k,QO k x->QO k y)/\y.aN.length<=10^12/\y.fQ.length<=10^12
def LQ{Z:ad}{m:E}{i P:Nat}{t D H:N}(f:∀d∈Z,d<m.size)(a:Rd i t P m)(hP:P+10<=10^16)(S:bd (dg [i] m) D x.aN)(hj:bd m H x.fQ)(c:x.aN.length<=10^12/\x.fQ.length<=10^12)(hx:∃K,QO K x):
 bJ dN 132 [vp i 0,inV x D H] m (IX Z i t m (P+3) (YH x)):=by
 apply EC (i,0)
 simp(config:={maxSteps:=1000000}) -zeta only[dU]
 have j:=a.lt
 intro s I
 let⟨W,hl⟩:=fN (a:=s) (c:=I) rfl rfl
 have n:=pz s
 have s2:I.size=m.size+2:=cG
 clear_value I
 clear_value s
 refine(Ax [] ((S.le fG).ext W) (hj.ext W) c).aO λ_ u⟨F,L,e,ga,gj,T,X⟩=>⟨X.fq hl,_,_,_,_,_,_,e,?_⟩
 intro m4 U
 obtain⟨Q,-,z5⟩:=kT (M:=u) (c:=m4) (a:=U) rfl rfl rfl
 clear_value U
 have ya:=ga.cD;have yj:=gj.cD
 have X5:=(W.O X).O Q
 have b5:BI I u.size i t m P U F L x.aN x.fQ:=⟨ga.ext Q,gj.ext Q,T,⟨X5.fz _,a.ext X5⟩,⟨V,th c.1,th c.2⟩,V,V,V,V⟩
 have q:∀p∈[u.size,s.size,m.size],m.size<=p/\p<=u.size:=cG
 let⟨o,y,B,z,r,A⟩:=x
 have Gu:YH ⟨o,y,B,z,r,A⟩ ⟨o,y,B,z,r,A⟩:=⟨λ_ h=>h,c⟩
 refine b5.lC j V q 5 λaf g _ _ b6 _ f6=>?_
 have w:∀{Y:E}{aa:Nat},BI I u.size i t m aa Y F L r A->aa<=P+3->IX Z i t m (P+3) (YH ⟨o,y,B,z,r,A⟩) (.agg #[vi o,vi y,vi B,vi z,F.v,L.v]) (aV Y s.size 0 [.i o,.i y,.i B,.i z,.s F,.s L]):=λh hQ=>h.j7 a f n hQ Gu
 have ab:o=16\/o=17->(0:Int)<=0/\(0:Int)<(D.len:Int)/\∃v:Int,aR g D.bq (D.off+Int.toNat 0*1)=some (vi v)/\IX Z i t m (P+3) (YH ⟨o,y,B,z,r,A⟩) (.agg #[vi 15,vi 0,vi 0,vi 0,N.v (.mk g.size 0 1 1),N.v .nil]) (aV (g.push (.cells (de [.i v]) bE)) s.size 0 [.i 15,.i 0,.i 0,.i 0,.s (.mk g.size 0 1 1),.s .nil]):=λe=>by
  have hn:0<r.length:=let⟨_,h⟩:=hx;h.arg cG;have ac:=S.aS;let⟨C,hy⟩:=dY r 0 hn;have z6:=b6.hi;have r7:=(b6.s.ext (J.push g (.cells (de [.i C]) bE))).cB a (k:=s.size) V 0 [.i 15,.i 0,.i 0,.i 0,.s (.mk g.size 0 1 1),.s .nil];have R:GI [] g (g.push (.cells (de [.i C]) bE)) (.mk g.size 0 1 1) [C]:=Gr.jU (f:=[[.i C]]) ye.aO bW rfl rfl ⟨rfl,bO,λH b x G O=>by
   cases H with
   |zero=>simp at G O;rw[<-G,<-O];rfl
   |succ H=>simp at G⟩
  exact⟨dR 0,by simp at ac;omega,C,(gV.1 ((S.le (b6.s.f.eU bO)).D hy)).2,⟨15,0,0,0,[C],[]⟩,_,.nil,rfl,GI.cz (GI.jQ (GI.lR R (cg _ _ _ _ fj))) (λd O=>oh (f d O)) bO,⟨rfl,jb _,bO,bO⟩,⟨λ_ _=>⟨sx,sx⟩,bO,bO⟩,r7.r.aO V,r7.f⟩
 refine⟨λ_=>⟨λe=>?_,λ_=>⟨λe=>(b6.cB a).j7 a f n V ⟨λ_ _=>⟨sx,sx⟩,c⟩,λ_=>⟨λe=>?_,λ_=>w b6 V⟩⟩⟩,λ_=>⟨λ_=>⟨λG=>?_,λ_=>w b6 V⟩,λ_=>⟨λ_=>?_,λ_=>⟨λ_=>⟨λe=>ab (bu cG),λ_=>⟨λe=>ab (bG cG),λ_=>⟨λe=>b6.lC j V q 4 λv O _ _ d _ _=>(d.cB a).j7 a f n V ⟨λ_ h=>⟨h.ym,h.arg⟩,c⟩,λ_=>w b6 V⟩⟩⟩,λ_=>⟨λ_=>⟨λe=>?_,λ_=>⟨λe=>?_,λ_=>w b6 V⟩⟩,λ_=>w b6 V⟩⟩⟩⟩⟩
 .simp only[bP]at e
  exact(b6.cB a).j7 a f n V ⟨λ_ _=>⟨sx,sx⟩,c⟩
 .simp only[bP]at e
  exact(b6.cB a).j7 a f n V ⟨λ_ h=>⟨sx,λ_=>h.arg (by simp[e])⟩,c⟩
 .simp only[bh]at G
  have ac:=b6.ga.aS cH
  refine b6.lC j V q (F.len:Int) λK m7 k0 k1 b7 R f7=>⟨R 4,b7.lC j V q 4 λv O _ _ d g8 f8=>⟨g8 4,k0,V,?_⟩⟩
  let⟨ae,g9,f9,q9⟩:=GI.eB d.ga (((((X.O Q).fz [i]).O f6).O f7).O f8) (k:=K.toNat) cG v
  have yb:=d.hi
  refine⟨ae,λp c=>q9 p cG,BI.j7 (k:=u.size) (l:=r.set K.toNat v) (f:=A) ⟨g9,GI.lR d.gj (q9 _ (ur T)),T,⟨d.s.f.aV (bG V) _ _,a.aV d.s.r d.s.f V _ _⟩,⟨V,by simpa using th c.1,th c.2⟩,V,V,V,by rw[bD];omega⟩ a f n V ⟨λ_ h=>⟨h.ym,λe=>by simpa using h.arg e⟩,sp c⟩⟩
 .refine(BU o g).jQ.aO λ_ m7⟨p,e,K⟩=>⟨K.fq λp c=>Xm (q p c) b6.hi,p,e,λ_=>?_,λ_=>w (b6.to j (K.fz _) (b6.s.r.ext K)) V⟩
  exact(b6.to j (K.fz _) (b6.s.r.ext K)).lC j V q 4 λv O _ _ d _ _=>(d.cB a).j7 a f n V ⟨λ_ h=>⟨h.ym,h.arg⟩,c⟩
 .simp only[bP]at e
  exact b6.lC j V q 9 λv O _ _ d _ _=>(d.cB a).j7 a f n V ⟨λ_ h=>⟨λh=>by simp[e]at h,h.arg⟩,c⟩
 .simp only[bP]at e
  exact b6.lC j V q 3 λv O _ _ d _ _=>(d.cB a).j7 a f n V ⟨λ_ h=>⟨λh=>by simp[e]at h,h.arg⟩,c⟩
end
section
def RA(M:E)(c:ae)(x:dP×N):Prop:=∃a b,c=[.s a,.s b,.i x.1.bL,.i x.1.aT,.s x.2]/\bd M a x.1.aX/\bd M b x.1.cR
def RA.aO:qj 5 RA:=⟨λh⟨a,b,e,c,d⟩=>⟨a,b,e,c.le h,d.le h⟩,λ⟨_,_,e,_⟩=>by rw[e];rfl⟩
def hd(x:dP×N):dP×N:=({x.1 with cF:=[]},x.2)
abbrev Ks(l:aA):ad:=l.map λx=>x.2.bq
@[grind cases] structure rG (S:ad) (m0 M:E) (dd q:N) (ds:af) (l:aA):Prop where
 d:dq (dg (q.bq::(Ks l++S)) M) dd ds
 g:Gr (Ks l++S) m0 M kJ 5 RA q (l.map hd)
 c:∀x∈l,Gr (q.bq::(Ks l++S)) m0 M dV 6 eS x.2 x.1.cF
 nd:(Ks l).Nodup
 lt:∀b∈S,b<M.size
 nq:q.bq∉S
 nc:∀x∈l,x.2.bq∉S
variable{S S' Y:ad}{e k M j:E}{f q:N}{h:af}{l:aA}
def rG.kq(a:rG S e M f q h l):∀x∈l,x.2.bq≠q.bq:=by grind [rG.c,Gr.PC,rG.g]
def rG.re(c:rG S e M f q h l)(m:Fz Y M j)(d:∀b∈Y,b∈S)(p:∀b∈S',(b∈S\/M.size<=b)/\b<j.size)(n:k.size<=e.size):rG S' k j f q h l:=by
 have s:=c.g.cD;have r:∀{b:Nat},b∈Ks l++S'->b∈Ks l++S\/M.size<=b:=λa=>by
  grind [List.mem_append_left,List.mem_append_right]
 have o:∀{b:Nat},b∈q.bq::(Ks l++S')->b∈q.bq::(Ks l++S)\/M.size<=b:=λa=>by
  grind [List.mem_cons_of_mem]
 refine⟨c.d.le (m.dg (λb a=>by simp[d b a]) λb a=>o a),Gr.da RA.aO (c.g.re RA.aO m (λb a=>by simp[d b a]) (λg=>c.nq (d _ g)) λb a=>r a) (λb a=>bu a) n,λx i=>Gr.da eS.aO ((c.c x i).re eS.aO m (λb a=>by simp[d b a]) (λg=>c.nc x i (d _ g)) λb a=>o a) (λb a=>bu a) n,c.nd,λb a=>(p b a).2,λg=>?_,λx i g=>?_⟩
 .grind [rG.nq]
 .have:=(c.c x i).cD;grind [rG.nc]
def rG.cF(a:rG S e M f q h l){y:dP×N}(b:y∈l)(i:y.1.cF.length<=10^12):gR (dg (q.bq::S) M) y.2 y.1.cF:=
 have g:Gr (q.bq::S) e M dV 6 eS y.2 y.1.cF:=(a.c y b).re eS.aO (Fz.cZ [] M) bO bO λc d=>bu cG
 g.rO eS.aO (by simp;exact⟨a.kq y b,a.nc y b⟩) cH V
def rG.gr(g:rG S e M f q h l)(u:∀x∈l,x.1.cF.length<=10^12):Gr S e M kJ 5 oB q (l.map (·.1)):=by
 let⟨v,n,z,r⟩:=g.g;refine⟨v,n,z,sp r.aS,r.aP,λk m x t b=>?_⟩;rw[eu]at b;cases c:l[k]? with
 |none=>simp[c]at b
 |some y=>
  simp[c]at b;subst b;let⟨j,d,a,o,p⟩:=r.eN k m (hd y) t (by simp[c]);have i:=aZ c;have w:Le (dg (q.bq::(Ks l++S)) M) (dg (q.bq::S) M):=kO M λd s=>by rcases aY.1 s with a|a<;>simp[a]
  exact⟨j,d,y.2,a,o.le w,p.le w,g.cF i (u y i)⟩
def rG.By{L:ad}{j F:E}{t b ks:N}{p:dP}{g tb i:Nat}{bc:ae}{P:E->Prop}(n:rG S e M f q h l)(x:J M j)(Q:Gr (q.bq::(Ks l++S)) F j dV 6 eS ks p.cF)(h8:M.size<=F.size)
 (ha:bd (dg (ks.bq::q.bq::(Ks l++S)) j) t p.aX)(d:bd (dg (ks.bq::q.bq::(Ks l++S)) j) b p.cR)(Z:dJ M g tb bc)(hi:i<bc.length)(v:e.size<=g/\g∈S)(R:∀b∈L,b<j.size/\b≠g/\b≠q.bq)(hl:l.length<=1000)(T:J e M)
 (hk:∀r k,rG S e k f r h (l++[(p,ks)])->dJ k g tb (jh bc i [.s r])->J e k->P k):
 aR (j.push (.cells (de [.s t,.s b,.i p.bL,.i p.aT,.s ks]) kJ)) g i=aR j g i/\
 lS (j.push (.cells (de [.s t,.s b,.i p.bL,.i p.aT,.s ks]) kJ)) kJ [.s .nil,.s .nil,.i 0,.i 0,.s .nil] 88 q (.mk j.size 0 1 1) λr k=>gL L (j.push (.cells (de [.s t,.s b,.i p.bL,.i p.aT,.s ks]) kJ)) k/\iQ k g i 1/\(gL L k (aV k g i [.s r])/\P (aV k g i [.s r])):=by
 have z:=Z.ext x
 have U:=J.push j (.cells (de [.s t,.s b,.i p.bL,.i p.aT,.s ks]) kJ)
 have yk:=Q.cD
 have yq:=n.g.cD
 have hq:q.bq≠g:=λc=>n.nq (by rw[c];exact v.2)
 have kx:ks.bq∉S:=λo=>by have:=n.lt _ o;omega
 have ck:∀y∈l,y.2.bq<M.size:=λy s=>(n.c y s).cD.2
 have H:∀b∈Ks (l++[(p,ks)])++S,b∈Ks l++S\/b=ks.bq:=λb d=>by
  simp only[Ks,kE,eI,iZ,bR,FJ]at d⊢;rcases d with(c|c)|c<;>simp[c]
 have g1:Gr (Ks (l++[(p,ks)])++S) e j kJ 5 RA q (l.map hd):=n.g.re RA.aO (x.fz []) bO bO λb d=>(H b d).imp id λc=>V
 have Y:Le (dg (ks.bq::q.bq::(Ks l++S)) j) (dg (q.bq::(Ks (l++[(p,ks)])++S)) j):=kO j λb d=>by
  rcases aY.1 d with c|c
  .simp[c]
  .rcases H b c with c|c
   .exact aW _ (aW _ c)
   .simp[c]
 refine⟨bB (U.bC g z.lt) i,Gr.nA (g:=[.s .nil,.s .nil,.i 0,.i 0,.s .nil]) (k:=hd (p,ks)) RA.aO cH g1 ((T.O x).fz []) ⟨t,b,rfl,ha.le Y,d.le Y⟩ fj λr k ab aa I D=>?_⟩
 have K:=z.congr (D g z.lt (ur hq))
 have hr:r.bq≠g:=by have:=z.lt;omega
 have A:∀b,b≠g->(aV k g i [.s r])[b]? =k[b]? :=λb d=>cg _ _ _ _ d
 have O:Fz [q.bq,g] j (aV k g i [.s r]):=⟨by rw[bD];exact I.1,λb d w=>(A b (by simp at w;omega)).trans (D b d (by simp at w;omega))⟩
 have B:Fz [q.bq,g] M (aV k g i [.s r]):=(x.fz _).O O
 have F0:J e (aV k g i [.s r]):=(aa.aV (bG v.1) _ _).ext
 have W:∀b∈r.bq::(Ks (l++[(p,ks)])++S),(b∈q.bq::(Ks l++S)\/b=ks.bq)\/j.size<=b:=λb d=>by
  rcases aY.1 d with c|c
  .rcases I.2 with u|u
   .exact bu (bu (by simp[c,u]))
   .exact bG V
  .exact bu ((H b c).imp (aW _) id)
 have X:∀b∈r.bq::(Ks (l++[(p,ks)])++S),b∈q.bq::(Ks l++S)\/M.size<=b:=λb d=>(W b d).elim (λc=>c.imp id λc=>V) λc=>bG V
 have G:∀b∈[q.bq,g],b∈q.bq::(Ks l++S):=λb d=>by simp at d;rcases d with c|c<;>simp[c,v.2]
 refine⟨λb d=>?_,K.iQ V,λb d=>A b (R b d).2.1,hk r _ ⟨n.d.le (B.dg G X),?_,λy s=>?_,?_,λb d=>?_,λo=>?_,λy s o=>?_⟩ (dJ.aV (m:=k) K) F0⟩
 .have C:=R b d
  rw[D b V C.2.2,U.bC b V]
 .rw[kE]
  let⟨g0,C,g1,g2⟩:=ab
  exact⟨g0,C,g1.congr (A _ hr),g2.aO λcs y=>RA.aO.le (ms λb d w=>⟨w,A b λc=>w (by rw[c];simp[v.2])⟩)⟩
 .rcases bR.1 s with c|c
  .exact(n.c y c).re eS.aO B G (by simp;exact⟨n.kq y c,λu=>n.nc y c (u▸v.2)⟩) X
  .simp at c
   subst c
   let⟨ac,C,af,rr⟩:=Q
   have w:Gr (ks.bq::q.bq::(Ks l++S)) F j dV 6 eS ks p.cF:=⟨ac,C,af,rr.aO λcs y=>eS.aO.le (kO j λb d=>by
    rcases aY.1 d with c|c
    .simp[c]
    .exact c)⟩
   exact Gr.da eS.aO (w.re eS.aO O (λb d=>aW _ (G b d)) (by simp;exact⟨V,λu=>kx (u▸v.2)⟩) λb d=>(W b d).imp (λc=>c.elim (aW _) λc=>by simp[c]) id) (λb d=>bu d) (oh T.aP)
 .simp only[Ks,kE,eI,iZ]
  refine List.nodup_append.2 ⟨n.nd,bO,λb d u o=>?_⟩
  simp at o d
  obtain⟨w,C,s,rfl⟩:=d
  have:=ck _ s
  simp at this;omega
 .have:=n.lt b d
  have:=B.aP
  omega
 .rcases I.2 with c|c
  .exact n.nq (c▸o)
  .have:=n.lt _ o;omega
 .rcases bR.1 s with c|c
  .exact n.nc y c o
  .simp at c
   subst c
   exact kx o
end
def Aw{h:ad}{m:E}(R:∀c∈h,c<m.size){ae ak:N}{F:af}{C:av}(hd:dq m ae F)(ht:eP F)(hp:kY m ak C)(ai:CI C):
 bJ dN 131 [.agg #[ae.v,ak.v]] m λO Y=>∃t q l,O=.agg #[t.v,q.v]/\rG h m Y t q F l/\l.map (·.1)=C/\J m Y:=by
 apply EJ
 simp -zeta only[dU]
 intro b a2
 let⟨x2,hl⟩:=fN (a:=b) (c:=a2) rfl rfl
 have s1:=pz b
 clear_value a2
 have aE:=hp.aS;have aD:=ai.pF
 refine(jw (b:=b.size::h) (dC R x2.aP (hl _ bO)) (hd.le x2.le) ht).aO λ_ z⟨t,e,ar,x3⟩=>?_
 subst e
 refine⟨x3.fq hl,_,rfl,?_⟩
 intro j ay ac
 have Z:=x2.O x3
 let⟨x5,B0,g0,s3,s5⟩:=nY (b:=j.size::b.size::h) RA.aO (d:=z) (a:=j) (c:=ay) (j:=ac) rfl rfl rfl
 clear_value ac
 have ah:∀c∈[b.size,m.size],c<z.size:=λc d=>x3.lt (hl c d)
 have i1:=ah b.size bO
 have z2:=Z.aP
 have A0:rG (j.size::b.size::h) z ac t (.mk z.size 0 0 0) F []:=⟨ar.le (x5.dg λf s=>by
  simp only[Ks,iZ,gY,aY]at s;rcases s with e|e|e
  .exact bG (by rw[e];exact bW)
  .exact bG V
  .exact bu (aY.2 e)),g0,bO,bO,λf s=>by
   simp only[aY]at s;rcases s with e|e|e
   .omega
   .omega
   .have:=R f e;omega,λd=>by
   simp only[aY]at d;rcases d with e|e|e
   .simp at e;omega
   .simp at e;omega
   .have:=R _ e;simp at this;omega,bO⟩
 refine ik (n:=C.length) V (λX g=>J z g/\∃k l,rG (j.size::b.size::h) z g t k F l/\dJ g j.size lV [.s t,.s k]/\l.map (·.1)=C.take X) ⟨x5,_,[],A0,B0,rfl⟩ ?_
 rintro X g aB μ hk ⟨xM,o,l,A,B,T⟩ aA
 have zM:=xM.aP
 refine dit (λx=>?_) λx=>?_
 .let⟨q,hq⟩:=dY C X
  have W:=ai.eN q (aZ hq)
  have q3:=W.aX;have q4:=W.cR;have qf:=W.pF
  have v6:=Z.O xM
  let⟨aC,f,c,c1,c2,c3,e0,e1,e2,e3,e4⟩:=hp.D hq
  have G:∀{O:Value}{f y:Nat},aR m f y=some O->aR g f y=some O:=λx=>v6.aR x
  refine⟨V,V,_,G e0,_,G e1,_,G e2,_,G e3,_,G e4,?_⟩
  intro m7 k
  obtain⟨Q,-,s8⟩:=kT (M:=g) (c:=m7) (a:=k) rfl rfl rfl
  clear_value k
  have U:∀c∈[g.size,b.size,m.size],c<k.size:=λc d=>by
   rcases aY.1 d with e|e
   .omega
   .have:=ah c e;omega
  have w8:=v6.O Q
  have hT:∀{w:E},g.size<=w.size->∀c∈o.bq::(Ks l++(j.size::b.size::h)),c<w.size:=λx c d=>by
   rcases aY.1 d with e|e
   .have:=A.g.cD;omega
   .rcases bR.1 e with e|e
    .obtain⟨u,r,rfl⟩:=fu.1 e;have:=(A.c u r).cD;omega
    .have:=A.lt c e;omega
  intro m9
  have x9:=px m9
  have ap:Gr (o.bq::(Ks l++(j.size::b.size::h))) k m9 dV 6 eS (.mk k.size 0 0 0) []:=Gr.bI _ bW
  clear_value m9
  have aq:=c3.aS
  refine gP (n:=q.cF.length) (aq▸c3.kA) (λab ks u=>J k u/\Gr (o.bq::(Ks l++(j.size::b.size::h))) k u dV 6 eS ks (q.cF.take ab)) ⟨x9,ap⟩ ?_
  rintro ab ks u I2 μ2 hj ⟨r,H⟩ az
  have X2:=w8.O r
  have z2:=r.aP
  have ax:∀c∈[g.size,b.size,m.size],c<u.size:=λc d=>r.lt (U c d)
  refine dit (λh2=>?_) λh2=>?_
  .let⟨K,D⟩:=dY q.cF ab
   let⟨pa,pj,ha,aw,P,ag,aj,am,an,ao⟩:=(gR.ext X2 c3).D D
   have yk:=H.cD
   refine⟨V,V,_,P,_,ag,_,aj,_,am,_,an,_,ao,?_⟩
   refine(Ay (S:=ks.bq::o.bq::(Ks l++(j.size::b.size::h))) (λc d=>?_) ha aw (W.rU K (aZ D))).aO λO aF⟨a',j',e,aa,au,v⟩=>⟨λc d=>v.bC c (ax c d),_,_,_,_,_,_,e,?_⟩
   .rcases aY.1 d with e|e
    .omega
    .exact hT V c e
   intro aG
   refine Gr.nA (g:=[.i 0,.i 0,.i 0,.i 0,.s .nil,.s .nil]) (k:=K) eS.aO cH (H.ext eS.aO v) ((r.O v).fz []) ⟨a',j',rfl,aa,au⟩ fj λal M3 g3 I z3 aH=>⟨J.sK ((r.O v).cw _) I.ext U,az V _ _ ⟨I.ext,?_⟩⟩
   rw[bX D];exact g3
  .rw[eW V]at H
   have v:∀{M1 u:E},J k M1->J M1 u->∀f,f<k.size->∀y,aR u f y=aR M1 f y:=λx h' f s y=>bB (h'.bC f (x.lt s)) y
   have I:g.size<k.size:=V
   have i2:j.size<k.size:=cp B.lt Q.aP
   refine⟨o,(B.ext (Q.O r)).dz 1,?_⟩
   refine(dA [] (c1.ext X2) V).bK r U λa' _ ao ga e D K=>⟨_,rfl,v r D _ I _,v r D _ I _,v r D _ I _,v r D _ i2 _,?_⟩
   subst e
   refine(dA [] (c2.ext (w8.O K)) V).bK K U λb' _ aj gb e P am=>⟨_,rfl,v K P _ I _,v K P _ I _,v K P _ i2 _,?_⟩
   subst e
   intro au
   have aw:=am.aP
   have yk:=H.cD
   have ag:∀{w:E},u.size<=w.size->∀c∈ks.bq::o.bq::(Ks l++(j.size::b.size::h)),c<w.size:=λx c d=>by
    rcases aY.1 d with e|e
    .omega
    .exact hT V c e
   have aa:bd (dg (ks.bq::o.bq::(Ks l++(j.size::b.size::h))) aj) a' q.aX:=(GI.cz (GI.jQ ga) (ag bW) V).le P.eU
   have an:bd (dg (ks.bq::o.bq::(Ks l++(j.size::b.size::h))) aj) b' q.cR:=GI.cz (GI.jQ gb) (ag D.aP) V
   have ll:l.length=X:=by have:=jO List.length T;simp at this;omega
   have yq:=A.g.cD
   exact A.By (i:=1) (bc:=[.s t,.s o]) (tb:=lV) (p:=⟨q.aX,q.cR,q.bL,q.aT,q.cF⟩) (L:=[g.size,b.size,m.size]) (Q.O am) (H.ext eS.aO (D.O P)) V aa an B bO ⟨V,bO⟩ (λc d=>by
    have hn:=A.nq;simp only[aY,Cj]at d hn;have:=Q.aP;have:=B.lt;rcases d with e|e|e|e
    .omega
    .omega
    .omega
    .simp at e) V xM λal Y A' B' x'=>aA V Y ⟨x',al,_,A',B',by rw[bX hq,kE,T];rfl⟩
 .refine⟨t,B.dz 0,o,B.dz 1,?_⟩
  intro w
  rw[eW V]at T
  have k:Fz [b.size] g w:=(Fz.cZ _ g).aV (bu bO) _ _
  exact⟨t,o,l,rfl,A.re k bO (λf s=>⟨bu (by simp[s]),Xm (R f s) k.aP⟩) Z.aP,T,(Z.O xM).aV V _ _⟩
section
variable{cs:ae}{p:dP}{y:Instr}
theorem Ko{α:Type}{l:List α}{f:Nat}{x:α}(h:l[f]? =some x):l.set f x=l:=by
 apply ee;grind [bA]
section
variable{a L B X:ad}{g m M:E}{d q c:N}{e:af}{l:aA}{b Q f k:Nat}{x:dP×N}
def BS.psh(h:BS B b c m Q M){o:Obj}:BS (M.size::B) b c m Q (M.push o):=⟨h.s.ext (J.push M o),λa d=>by
 have z:=h.s.f.aP;rw[Array.size_push];rcases aY.1 d with e|e
 .omega
 .have:=h.jW a e;omega⟩
def rG.pF(h:CI (l.map (·.1)))(a:x∈l):YP x.1:=by grind [CI.eN]
def rG.aS(h:rG a g M d q e l):q.len=l.length:=by grind [rG.g,Gr.aS]
def rG.kV(o:rG a g M d q e l)(k:l[f]? =some x):∃b c:N,aR M q.bq (q.off+f*5)=some b.v/\aR M q.bq (q.off+f*5+1)=some c.v/\aR M q.bq (q.off+f*5+2)=some (vi x.1.bL)/\aR M q.bq (q.off+f*5+3)=some (vi x.1.aT)/\aR M q.bq (q.off+f*5+4)=some (N.v x.2)/\bd (dg (q.bq::a) M) b x.1.aX/\bd (dg (q.bq::a) M) c x.1.cR:=by
 let⟨z,m,v,r⟩:=o.g;have y:=bA k;have t:f<m.length:=by have:=r.aS;simp at this;omega
 let⟨cs,j⟩:=jk t;let⟨b,c,n,p,s⟩:=r.eN f cs (hd x) j (by simp[k]);have kV:=v.kV;have w:Le (dg (q.bq::(Ks l++a)) M) (dg (q.bq::a) M):=by grind [kO]
 have D:∀i h,cs[i]? =some h->aR M q.bq (q.off+f*5+i)=some h.v:=λi h u=>by
  have:=kV (f*5+i) h (jY r.aP j u);grind [Nat.add_assoc]
 subst n;exact⟨b,c,D 0 _ rfl,D 1 _ rfl,D 2 _ rfl,D 3 _ rfl,D 4 _ rfl,p.le w,s.le w⟩
def rG.it(h:rG a g M d q e l)(i:l.length<=1000)(c:∀x∈l,x.1.cF.length<=10^12):IT (dg a M) d q (e,l.map (·.1)):=
 ⟨h.d.le (kO M λf b=>by simp[b]),(h.gr c).rO oB.aO h.nq cH cG⟩
def rG.afb(h:rG a g M d q e l)(j:Fz X g M)(r:l.length<=1000)(i:∀x∈l,x.1.cF.length<=10^12)(o:k<l.length)(m:oB (dg (q.bq::a) M) cs p):
 iQ M q.bq (q.off+k*5) 5/\∃n,IT (dg a (aV M q.bq (q.off+k*5) cs)) d q (e,n):=by
 obtain⟨w,f,-,-⟩:=(h.gr i).eB oB.aO j (k:=k) cG m
 have F:Fz [q.bq] M (aV M q.bq (q.off+k*5) cs):=by grind [Fz.cZ,Fz.aV]
 exact⟨w,_,h.d.le (F.dg (λc b=>by simp at b;simp[b]) λc b=>bu (by simp[b])),f.rO oB.aO h.nq cH cG⟩
def rG.wr(h:rG a g M d q e l)(t:Fz X g M)(A:l[f]? =some x)(v:k<x.1.cF.length)(B:eS (dg (q.bq::(Ks l++a)) M) cs y):
 iQ M x.2.bq (x.2.off+k*6) 6/\rG a g (aV M x.2.bq (x.2.off+k*6) cs) d q e (l.set f ({x.1 with cF:=x.1.cF.set k y},x.2)):=by
 have p:=aZ A
 have G:x.2.bq∈Ks l:=cG
 have C:∀b∈x.2.bq::q.bq::(Ks l++a),b∈q.bq::(Ks l++a):=λb i=>by
  grind [List.mem_cons_of_mem,List.mem_append_left]
 obtain⟨D,s,-,E⟩:=(h.c x p).eB eS.aO t v (eS.le (kO M C) B)
 have F:Fz [x.2.bq] M (aV M x.2.bq (x.2.off+k*6) cs):=by grind [Fz.cZ,Fz.aV]
 have o:∀b∈[x.2.bq],b∈Ks l++a:=by grind [List.mem_append_left]
 have m:Ks (l.set f ({x.1 with cF:=x.1.cF.set k y},x.2))=Ks l:=by
  grind [List.map_set,Ko]
 have u:(l.set f ({x.1 with cF:=x.1.cF.set k y},x.2)).map hd=l.map hd:=by
  grind [List.map_set,Ko,hd]
 have r:∀z∈l.set f ({x.1 with cF:=x.1.cF.set k y},x.2),z=({x.1 with cF:=x.1.cF.set k y},x.2)\/z∈l/\z.2.bq≠x.2.bq:=λz j=>by
  let⟨H,n⟩:=cX.1 j;rw[HZ]at n;split at n
  .grind
  .next hne=>
   refine bG ⟨aZ n,λc=>hne ?_⟩;have w:f<(Ks l).length:=by grind [bA]
   exact(List.getElem?_inj w h.nd).1 cG
 refine⟨D,?_,?_,λz j=>?_,by rw[m];exact h.nd,λb i=>by rw[bD];exact h.lt b i,h.nq,λz j=>?_⟩
 .rw[m];exact h.d.le (F.eU λb i=>aW _ (o b i))
 .rw[m,u];exact h.g.Pq RA.aO F o (by simp;exactλc=>h.kq x p c.symm)
 .rw[m]
  rcases r z j with c|⟨c,w⟩
  .rw[c];exact s
  .exact(h.c z c).Pq eS.aO F (λb i=>aW _ (o b i)) cG
 .grind [rG.nc]
end
def aao{c:av}(h:CI c){f k:Nat}{x:Instr}(g:c[f]? =some p)(i:p.cF[k]? =some x)(d:YH x y):CI (c.set f {p with cF:=p.cF.set k y}):=by
 have b:=h.eN p (aZ g);refine⟨sp h.iT,sp h.pF,λq j=>?_⟩;rcases iS j with e|e
 .exact h.eN q e
 .subst e;refine⟨b.aX,b.cR,sp b.iT,sp b.pF,λl z a=>?_,λz a=>?_⟩
  .simp only[HZ]at a;split at a
   .next e=>
    subst e;split at a
    .simp at a;subst a;exact d.1 _ (b.cF _ _ i)
    .simp at a
   .exact b.cF _ _ a
  .rcases iS a with e|e
   .exact b.rU z e
   .rw[e];exact d.2
variable{a:ad}{m:E}{b P:Nat}{c:N}
def LR(hS:∀k∈a,k<m.size)(ab:b∈a)(H:Rd b c P m)(hP:P+100<=10^16){aa p:N}{s:af×av}(ad:IT (dg a m) aa p s)(Q:UI s):bJ dN 75 [vp b 0,.agg #[aa.v,p.v]] m (PP IT UI a b c m (P+11)):=by
 apply ED (b,0);simp -zeta only[dU];have z:=H.lt;intro i Y;have b2:BS [i.size,m.size] b c m P Y:=BS.psh (BS.lW (S:=a) H).1;have R:J m Y:=(J.push m _).O (J.push i _);clear_value Y;refine(Aw (b2.hS hS) ((ad.1.le fG).ext R) (wZ Q.2) (fU.aO (kY.le fG ad.2) R λ_ _=>oB.le R.le) Q.1).aO λ_ j⟨w,q,l,e,A,hl,x3⟩=>⟨(b2.lw z λ_ h=>h).fq (x3.fz _),w,q,e,?_⟩;have b3:=b2.to (x3.fz _) (b2.s.r.ext x3);intro m4 I;obtain⟨b5,-,-⟩:=b3.bT (S:=a) (m1:=m4) (m2:=I) rfl rfl rfl;obtain⟨x5,-,-⟩:=kT (M:=j) (c:=m4) (a:=I) rfl rfl rfl;clear_value I;have A5:rG ([j.size,i.size,m.size]++a) m I w q s.1 l:=A.re (x5.fz []) bO (λd f=>⟨by
  rcases aY.1 f with e|e
  .exact bG V
  .exact bu e,b5.hS hS d f⟩) R.aP
 refine b5.lC z V (λ_ h=>h) 2 λaj m6 i0 i1 b6 f6=>?_;have hB:∀d∈[b],d∈[j.size,i.size,m.size]++a:=by simp[ab]
 have O:∀{u M':E}{l:aA},rG ([j.size,i.size,m.size]++a) m u w q s.1 l->Fz [b] u M'->rG ([j.size,i.size,m.size]++a) m M' w q s.1 l:=λh F=>h.re F hB (λd f=>⟨bu f,cp (h.lt d f) F.aP⟩) bW;refine⟨λL u=>∃n:Nat,L=n/\n<=2/\BS [j.size,i.size,m.size] b c m (P+11 -5*n) u/\∃l,rG ([j.size,i.size,m.size]++a) m u w q s.1 l/\CI (l.map (·.1)),λL _=>L.toNat,⟨(aj+1).toNat,by rw[iC];omega,V,⟨⟨b6.s.f,b6.s.r.aO V⟩,b6.jW⟩,l,O A5 f6,hl▸Q.1⟩,?_⟩;rintro L u ⟨n,rfl,hk,d,l,A,r⟩;refine⟨λh=>?_,λ_=>d.j7 IT.mn H bO (x:=(s.1,l.map (·.1))) (A.it (by have:=r.pF;simp at this;omega) λy g=>(rG.pF r g).pF) ⟨r,Q.2⟩ V⟩;simp only[bh]at h;have aq:=A.aS;have l4:l.length<=4:=sp r.pF;have l0:0<l.length:=sp r.iT;refine d.lC z V (λ_ h=>h) (q.len:Int) λF m7 W f1 b7 f7=>?_;have T:=O A f7;let⟨y,g⟩:=dY l F.toNat;obtain⟨-,-,-,-,-,-,g7,-,-⟩:=T.kV g;have py:=rG.pF r (aZ g);have ao:=(T.cF (aZ g) py.pF).aS;have an:=py.iT;refine⟨W,V,y.2,g7,b7.lC z V (λ_ h=>h) (y.2.len:Int) λak K j0 j1 U f8=>?_⟩;have t:=O T f8;obtain⟨-,-,-,-,-,-,g8,-,-⟩:=t.kV g;let⟨al,B⟩:=dY y.1.cF ak.toNat;let⟨am,jj,ha,hj,e0,e1,e2,e3,e4,e5⟩:=(t.cF (aZ g) py.pF).D B;have jW:∀{d o:Nat}{ae:Value},aR (dg (q.bq::([j.size,i.size,m.size]++a)) K) d o=some ae->aR K d o=some ae:=λh=>(gV.1 h).2;refine⟨W,V,y.2,g8,W,V,y.2,g8,j0,V,_,jW e0,_,jW e1,_,jW e2,_,jW e3,_,jW e4,_,jW e5,?_⟩;have hZ:∀k∈q.bq::(Ks l++([j.size,i.size,m.size]++a)),k<K.size:=λk X=>by
  rcases aY.1 X with e|e
  .rw[e];exact t.g.cD.2
  .rcases bR.1 e with e|e
   .obtain⟨Z,v,rfl⟩:=fu.1 e;exact(t.c Z v).cD.2
   .exact t.lt k e
 refine(LQ hZ U.s.r V (ha.le (kO _ (by simp[ab]))) (hj.le fG) (py.rU al (aZ B)) ⟨_,py.cF _ _ B⟩).aO λ_ m9⟨C,a',j',e,ah,ai,f,r9,G⟩=>⟨(U.lw z λ_ h=>h).fq G,_,_,_,_,_,_,e,?_⟩;have D:=O t G;have v:=U.to G r9;let⟨Z,ag⟩:=D.wr v.s.f g (bA B) (cs:=[.i C.op,.i C.br,.i C.cE,.i C.cY,.s a',.s j']) (y:=C) ⟨a',j',rfl,ah,ai⟩;have yc:=(D.c y (aZ g)).cD;have ac:∀o d,d∈q.bq::([j.size,i.size,m.size]++a)->d≠b->aR m9 d o=aR K d o:=λo d f hn=>bB (G.bC d (hZ d ((aY.1 f).elim (λe=>by simp[e]) λe=>aW _ (mM _ e))) (sp hn)) o;have yq:=D.g.cD;have ap:=v.jW j.size bO;refine⟨ac _ _ bO V,ac _ _ bO V,j0,V,Z,λd f=>cg _ _ _ _ λe=>(D.nc y (aZ g)) (by rw[<-e];exact dK _ f),⟨n -1,?_,V,⟨⟨v.s.f.aV (bG V) _ _,(H.aV v.s.r v.s.f V _ _).aO V⟩,λk X=>by rw[bD];exact v.jW k X⟩,_,ag,?_⟩,?_⟩
 .rw[iC];omega
 .rw[xZ];exact aao r (by simp[g]) B f
 .rw[iC];show((n:Int) -1).toNat<(n:Int).toNat;omega
end
section
variable{m:E}{b:Nat}{a j:N}
def BI.lW{L:ad}{i M:E}{k Q:Nat}{l:N}{p q:ab}(h:BI i k b l m Q M a j p q)(o:b<m.size)(u:Q<=10^16)(s:∀e∈L,m.size<=e/\e<=k)(d:ab){g:ae}{n:Nat}(w:g=d.map Ce.i)(A:n=d.length)(z:0<d.length/\d.length<=100){K:Int->E->Prop}
 (y:∀t c,BI i k b l m (Q+1) c a j p q->K t c):bJ dN 77 [vp b 0,N.v (.mk M.size 0 n n)] (M.push (.cells (de g) bE)) λC c=>gL L (M.push (.cells (de g) bE)) c/\∃t:Int,C=vi t/\K t c:=
 have:=h.hi
 have x:=J.push M (.cells (de g) bE)
 have D:=x.aP
 (HN h.s u d w A z).aO λ_ c⟨t,r,_,B,f⟩=>⟨f.fq λe v=>by have:=s e v;simp only[FJ];omega,t,r,y t c ((h.to o (x.fz _) (h.s.r.ext x)).to o f B.r)⟩
def KM{Z:ad}{P:Nat}{s:N}{x:Instr}(o:∀c∈Z,c<m.size)(c:Rd b s P m)(hP:P+20<=10^16)(T:bd m a x.aN)(U:bd m j x.fQ)(p:x.aN.length<=10^12/\x.fQ.length<=10^12):
 bJ dN 135 [vp b 0,inV x a j] m (IX Z b s m (P+4) λ_=>True):=by
 apply Dl (b,0)
 simp(config:={maxSteps:=1000000}) -zeta only[dU]
 have q:=c.lt
 intro w h
 let⟨H,C⟩:=fN (a:=w) (c:=h) rfl rfl
 have i:=pz w
 have s2:h.size=m.size+2:=by simp[h,i]
 clear_value h
 clear_value w
 refine(Ax [] (T.ext H) (U.ext H) p).aO λ_ r⟨K,O,l,L,E,W,R⟩=>⟨R.fq C,_,_,_,_,_,_,l,?_⟩
 intro X F
 obtain⟨I,-,z5⟩:=kT (M:=r) (c:=X) (a:=F) rfl rfl rfl
 clear_value F
 have ya:=L.cD;have yj:=E.cD
 have J:=(H.O R).O I
 have b5:BI h r.size b s m P F K O x.aN x.fQ:=⟨L.ext I,E.ext I,W,⟨J.fz _,c.ext J⟩,⟨V,th p.1,th p.2⟩,V,V,V,V⟩
 have u:∀B∈[r.size,w.size,m.size],m.size<=B/\B<=r.size:=fj
 refine b5.lC q V u 6 λac y _ _ b6 _ f6=>?_
 have y6:=b6.hi
 have sp:∀{v:N}{Q:ab},GI [] h y v Q->Q.length<=10^12->bJ dN 133 [vp b 0,v.v] y λA f=>gL [r.size,w.size,m.size] y f/\∃e,A=e.v/\∃g,GI [] y f e g/\g.length<=1000000000001/\Rd b s (P+4) f/\Fz [b] y f:=λn C=>
  (AM b6.s.r V (bd.le fG (n.cz bO C)) C).aO λ_ f⟨e,g,l,S,D,_,z,t⟩=>⟨t.fq λB p=>by have:=u B p;simp only[FJ];omega,e,l,g,S,V,z,t⟩
 refine⟨λ_=>b6.lC q V u 26 λA G _ _ d _ _=>(d.cB c).j7 c o i V trivial,λ_=>⟨λ_=>b6.lW q V u [0,1,-1,99] rfl rfl bO λA G d=>(d.cB c).j7 c o i V trivial,λ_=>⟨λ_=>b6.lW q V u [0,1,5,-1,1000,2000] rfl rfl bO λA G d=>(d.cB c).j7 c o i V trivial,λ_=>⟨λ_=>b6.lW q V u [0,1,-1,99] rfl rfl bO λA G d=>(d.cB c).j7 c o i V trivial,λ_=>⟨λ_=>?_,λ_=>⟨λ_=>?_,λ_=>b6.j7 c o i V trivial⟩⟩⟩⟩⟩⟩
 .refine(sp b6.ga p.1).aO λ_ f⟨v,e,l,g,n,D,z,t⟩=>⟨v,e,l,?_⟩
  have Y:=n.cD
  have aa:=b6.s.f.aP
  have k:=b6.to q t z
  have d:BI h r.size b s m (P+4) f e O g x.fQ:=⟨n.da bO V,k.gj,oh E.cD,k.s,⟨V,D,b6.lo.2.2⟩,V,V,k.hi.2.2⟩
  exact(d.cB c).j7 c o i V trivial
 .refine(sp b6.gj p.2).aO λ_ f⟨v,e,l,g,n,D,z,t⟩=>⟨v,e,l,?_⟩
  have Y:=n.cD
  have aa:=b6.s.f.aP
  have k:=b6.to q t z
  have d:BI h r.size b s m (P+4) f K e x.aN g:=⟨k.ga,n.da bO V,V,k.s,⟨V,b6.lo.2.1,D⟩,V,V,k.hi.2.2⟩
  exact(d.cB c).j7 c o i V trivial
end
section
def AD(a:ad)(b:Nat)(c:N)(m:E)(P:Nat)(v:Value)(d:E):Prop:=∃s e,v=s.v/\dq (dg a d) s e/\Rd b c P d/\Fz [b] m d
@[grind cases] structure DD (S:ad) (rb:Nat) (bs:N) (m:E) (Q:Nat) (M:E) (s:N) (ds:af):Prop where
 g:GDl S m M s ds
 r:Rs rb bs m Q M
 l:0<ds.length/\ds.length<=100
variable{a:ad}{b P Q o h:Nat}{c s:N}{m M f:E}{e:af}
def DD.to(h:DD a b c m Q M s e)(g:b∈a/\b<m.size)(d:Fz [b] M f)(r:Rs b c m o f):DD a b c m o f s e:=⟨h.g.fL jL.aO d (by simp;exact g),r,h.l⟩
def DD.ext(h:DD a b c m Q M s e)(x:J M f):DD a b c m Q f s e:=⟨h.g.ext jL.aO x,h.r.ext x,h.l⟩
theorem DD.jW(h:DD a b c m Q M s e)(f:∀d∈a,d<m.size):∀d∈s.bq::a,d<M.size:=by grind [DD.g,Gr.cD,DD.r,Rs.f,Fz.aP]
def DD.jU(h:DD a b c m Q M s e)(f:∀d∈a,d<m.size)(l:ab){cs:ae}{n:Nat}(d:cs=l.map Ce.i)(i:n=l.length)(g:l.length<=100):bd (dg (s.bq::a) (M.push (.cells (de cs) bE))) (.mk M.size 0 n n) l:=by grind [bd.jU,DD.jW]
def DD.j7(d:DD a b c m Q M s e)(g:∀f∈a,f<m.size)(f:Q<=h):AD a b c m h s.v M:=⟨s,e,rfl,d.g.cz jL.aO g cH (oh d.l),d.r.r.aO f,d.r.f⟩
def DD.eB(f:DD a b c m Q M s e)(o:∀g∈a,g<m.size)(i:Rd b c P m)(n:Q<=h){k:Int}(p:0<=k/\k<(e.length:Int)){cs:ae}{d:cL}(hd:jL (dg (s.bq::a) M) cs d):
 0<=k/\k<(s.len:Int)/\iQ M s.bq (s.off+k.toNat*3) 3/\AD a b c m h s.v (aV M s.bq (s.off+k.toNat*3) cs):=by
 have q:=f.g.aS cH
 have y:=f.g.cD
 let⟨w,l,g,j⟩:=f.g.eB jL.aO f.r.f (k:=k.toNat) V hd
 exact⟨p.1,V,w,s,_,rfl,l.cz jL.aO o cH cG,(i.Bj f.r.r g (j b (oh i.lt))).aO n,g⟩
def DD.og(d:DD a b c m Q M s e)(i:∀g∈a,g<m.size)(k:Rd b c P m)(q:Q<=h){g:ae}{n:Nat}(l:List (cL×ae))(hd:∀x∈l,jL (dg (s.bq::a) M) x.2 x.1)(t:g=l.flatMap (·.2))(u:n=l.length)(v:l.length<=100):
 lS (M.push (.cells (de g) kH)) kH [.i 0,.i 0,.s .nil] 40 s (.mk M.size 0 n n) λr f=>AD a b c m h r.v f:=by
 have x:=J.push M (.cells (de g) kH)
 have z:=d.g.cD
 have H:=(FZ jL.aO (d.jW i) kH l hd t u).cz jL.aO (d.jW i) cH fj
 have w:=d.l
 refine Gr.lQ (g:=[.i 0,.i 0,.s .nil]) jL.aO cH (d.ext x).g (d.ext x).r.f H fj λr y p j A o=>⟨r,_,rfl,p.cz jL.aO i cH fj,(k.Bj (d.ext x).r.r j (o b (d.ext x).r.r.lt (oh k.lt))).aO q,j⟩
def NF(g:∀z∈a,z<m.size)(O:b∈a)(v:Rd b c P m)(hP:P+100<=10^16):bJ dN 134 [vp b 0] m (AD a b c m (P+6)):=by
 apply Gx (b,0);have hr:=v.lt;have w:b∈a/\b<m.size:=⟨O,hr⟩;refine(AA g O v V).aO λ_ m1⟨s,e,h,g1,ad,d1,f1⟩=>⟨s,h,?_⟩;have R:DD a b c m (P+1) m1 s e:=⟨g1,⟨f1,d1⟩,oh (tE e ad)⟩;have sl:s.len=e.length:=g1.aS cH;have dl:=R.l;refine(dW d1 V (s.len:Int)).aO λ_ m2⟨D,h,k0,k1,d2,f2⟩=>⟨D,h,?_⟩;have Z:=R.to w f2 (R.r.to f2 d2);have N:0<=D/\D<(e.length:Int):=V;refine(dW d2 V 14).aO λ_ F⟨ae,h,_,_,d3,f3⟩=>⟨ae,h,?_⟩;have k:=Z.to w f3 (Z.r.to f3 d3);have Q:∀{M:E},CSl M .nil []:=⟨rfl,jb _,bO,bO⟩;have x:∀{M f:E},J M f->Le (dg (s.bq::a) M) (dg (s.bq::a) f):=λX=>X.eU;refine⟨λ_=>?_,λ_=>⟨λ_=>?_,λ_=>⟨λ_=>?_,λ_=>⟨λ_=>?_,λ_=>⟨λ_=>?_,λ_=>⟨λ_=>k.og g v V [(⟨0,0,[]⟩,[.i 0,.i 0,.s .nil]),(⟨3,0,[]⟩,[.i 3,.i 0,.s .nil])] (by simp;exact⟨⟨.nil,rfl,Q⟩,⟨.nil,rfl,Q⟩⟩) rfl rfl bO,λ_=>k.j7 g V⟩⟩⟩⟩⟩⟩
 .refine(HN k.r V [-1,5,0,2] rfl rfl bO).aO λ_ o⟨t,h,_,G,u⟩=>⟨t,h,?_⟩;have r:=(k.ext (J.push F _)).to w u G;refine(HN G V [0,1,5] rfl rfl bO).aO λ_ l⟨q,h,_,A,y⟩=>⟨q,h,?_⟩;have p:=(r.ext (J.push o _)).to w y A;exact p.eB g v V N (d:=⟨t,q,[]⟩) ⟨.nil,rfl,Q⟩
 .refine(HN k.r V [-1,0,4,5] rfl rfl bO).aO λ_ o⟨t,h,_,G,u⟩=>⟨t,h,?_⟩;have r:=(k.ext (J.push F _)).to w u G;have L:=r.jU g [t] (cs:=[.i t]) (n:=1) rfl rfl bO;refine HD λl y=>?_;have p:=(r.ext (J.push o _)).ext y;have a2:=p.jU g [0,0,0,0] (cs:=[.i 0,.i 0,.i 0,.i 0]) (n:=4) rfl rfl bO;refine HD λq B=>?_;have H:=(p.ext (J.push l _)).ext B;have a3:=H.jU g [] (cs:=[]) (n:=0) rfl rfl bO;refine HD λA C=>?_;have I:=(H.ext (J.push q _)).ext C;have K:=(J.push q (.cells (de []) bE)).O C;have U:=((J.push l (.cells (de [.i 0,.i 0,.i 0,.i 0]) bE)).O B);have z:=A2 (I.jW g) mX [([t],.mk o.size 0 1 1),([0,0,0,0],.mk l.size 0 4 4),([],.mk q.size 0 0 0)] bO (by
   simp only[aY,mV,FO,forall_eq_or_imp,forall_eq];exact⟨L.le (x ((y.O U).O K)),a2.le (x (B.O K)),a3.le (x C)⟩) (c:=[.s (.mk o.size 0 1 1),.s (.mk l.size 0 4 4),.s (.mk q.size 0 0 0)]) (b:=3) rfl rfl
  exact(I.ext (J.push A _)).eB g v V N (d:=⟨0,0,_⟩) ⟨_,rfl,z⟩
 .have L:=k.jU g [eR (D+1)] (cs:=[.i (eR (D+1))]) (n:=1) rfl rfl bO;refine HD λl y=>?_;have p:=(k.ext (J.push F _)).ext y;have z:=A2 (p.jW g) mX [([eR (D+1)],.mk F.size 0 1 1)] bO (by
   simp only[aY,mV,FO,forall_eq];exact L.le (x y)) (c:=[.s (.mk F.size 0 1 1)]) (b:=1) rfl rfl
  exact(p.ext (J.push l _)).eB g v V N (d:=⟨0,0,_⟩) ⟨_,rfl,z⟩
 .refine(HN k.r V [0,2,1] rfl rfl bO).aO λ_ o⟨t,h,_,G,u⟩=>⟨t,h,?_⟩;have r:=(k.ext (J.push F _)).to w u G;exact r.og g v V [(⟨2,t,[]⟩,[.i 2,.i t,.s .nil])] (by simp;exact⟨.nil,rfl,Q⟩) rfl rfl bO
 .refine(dW k.r.r V 2).aO λ_ o⟨t,h,_,_,d4,u⟩=>⟨t,h,?_⟩;have r:=k.to w u (k.r.to u d4);have L:=r.jU g [] (cs:=[]) (n:=0) rfl rfl bO;refine HD λl y=>?_;have p:=(r.ext (J.push o _)).ext y;have a2:=p.jU g [2] (cs:=[.i 2]) (n:=1) rfl rfl bO;refine HD λq B=>?_;have H:=(p.ext (J.push l _)).ext B;have a3:=H.jU g [] (cs:=[]) (n:=0) rfl rfl bO;refine HD λA C=>?_;have I:=(H.ext (J.push q _)).ext C;have a4:=I.jU g [] (cs:=[]) (n:=0) rfl rfl bO;refine HD λm8 Y=>?_;have D8:=(I.ext (J.push A _)).ext Y;have W:=(J.push A (.cells (de []) bE)).O Y;have K:=(J.push q (.cells (de []) bE)).O C;have U:=((J.push l (.cells (de [.i 2]) bE)).O B);have z:=A2 (D8.jW g) mX [([],.mk o.size 0 0 0),([2],.mk l.size 0 1 1),([],.mk q.size 0 0 0),([],.mk A.size 0 0 0)] bO (by
   simp only[aY,mV,FO,forall_eq_or_imp,forall_eq];exact⟨L.le (x (((y.O U).O K).O W)),a2.le (x ((B.O K).O W)),a3.le (x (C.O W)),a4.le (x Y)⟩) (c:=[.s (.mk o.size 0 0 0),.s (.mk l.size 0 1 1),.s (.mk q.size 0 0 0),.s (.mk A.size 0 0 0)]) (b:=4) rfl rfl
  have T:=D8.ext (J.push m8 (.cells (de [.s (.mk o.size 0 0 0),.s (.mk l.size 0 1 1),.s (.mk q.size 0 0 0),.s (.mk A.size 0 0 0)]) mX));refine(dW T.r.r V 3).aO λ_ af⟨aa,h,j0,j1,ac,G⟩=>⟨aa,h,j0,fj,bO,?_⟩;have c':=(fU.le z (G.eU (S:=s.bq::a) (by simp[O])) λab X=>nm.le (G.eU (by simp[O])) ab X).O3 (i:=aa.toNat) (j:=4) V bO;exact(T.to w G (T.r.to G ac)).eB g v V N (d:=⟨t,0,_⟩) ⟨_,rfl,c'⟩
end
section
def Tr{α:Type}(_:α):Prop:=True
variable{a:ad}{m:E}{b P:Nat}{c:N}
def yW(hS:∀w∈a,w<m.size)(Z:b∈a)(Y:Rd b c P m)(hP:P+200<=10^16){am an:N}{x:af×av}(u:IT (dg a m) am an x)(ao:UI x)(ax:Int):bJ dN 76 [vp b 0,.agg #[N.v am,N.v an],vi ax] m (PP IT Tr a b c m (P+10)):=by
 apply Dk (b,0);simp(config:={maxSteps:=1000000}) -zeta only[kd];have F:=Y.lt;intro d ad;have b2:BS [d.size,m.size] b c m P ad:=BS.psh (BS.lW (S:=a) Y).1;have x2:J m ad:=(J.push m _).O (J.push d _);have s1:=pz d;have t2:IT (dg ([d.size,m.size]++a) ad) am an x:=IT.mn _ _ _ _ _ (x2.dg λh r=>by
  simp at r;rcases r with e|e|e
  .exact bG V
  .exact bG V
  .exact bu e) u
 clear_value ad;refine b2.lC F V (λ_ o=>o) ax λaH m3 _ _ b3 f3=>?_;have t3:=IT.mn _ _ _ _ _ (BS.le (B:=[d.size,m.size]) Z f3) t2;refine⟨λ_=>b3.j7 IT.mn Y bO t3 trivial V,λ_=>?_⟩;refine(Aw (b3.hS hS) (t3.1.le fG) (wZ ao.2) (kY.le fG t3.2) ao.1).aO λ_ f⟨L,q,C,e,A4,hl,x4⟩=>⟨(b3.lw F λ_ o=>o).fq (x4.fz _),L,q,e,?_⟩;have b4:=b3.to (x4.fz _) (b3.s.r.ext x4);intro m5 m6;obtain⟨b6,-,-⟩:=b4.bT (S:=a) (m1:=m5) (m2:=m6) rfl rfl rfl;obtain⟨x6,-,-⟩:=kT (M:=f) (c:=m5) (a:=m6) rfl rfl rfl;clear_value m6;have A6:rG ([f.size,d.size,m.size]++a) m m6 L q x.1 C:=A4.re (x6.fz []) bO (λh r=>⟨by
  rcases aY.1 r with e|e
  .exact bG V
  .exact bu e,b6.hS hS h r⟩) b3.s.f.aP
 have ok:CI (C.map (·.1)):=hl▸ao.1;have aN:=A6.aS;have l4:C.length<=4:=sp ok.pF;have l0:0<C.length:=sp ok.iT;have cl:∀g∈C,g.1.cF.length<=10^12:=λg A=>(rG.pF ok A).pF;refine b6.lC F V (λ_ o=>o) (q.len:Int) λp i f0 f1 b7 f7=>?_;have A7:=A6.re f7 (S':=[f.size,d.size,m.size]++a) (by simp[Z]) (λh r=>⟨bu r,b7.hS hS h r⟩) bW;let⟨g,A⟩:=dY C p.toNat;let⟨ac,h,g0,g1,g2,g3,g4,aE,aF⟩:=A7.kV A;refine⟨f0,V,ac,g0,h,g1,_,g2,_,g3,g.2,g4,?_⟩;intro m8 m9;obtain⟨b9,-,-⟩:=b7.bT (S:=a) (m1:=m8) (m2:=m9) rfl rfl rfl;obtain⟨x9,-,-⟩:=kT (M:=i) (c:=m8) (a:=m9) rfl rfl rfl;clear_value m9;have A9:rG ([i.size,f.size,d.size,m.size]++a) m m9 L q x.1 C:=A7.re (x9.fz []) bO (λh r=>⟨by
  rcases aY.1 r with e|e
  .exact bG V
  .exact bu e,b9.hS hS h r⟩) bW
 have j7:∀{l:E}{R:N}{ap:af×av}{Q:Nat},BS [i.size,f.size,d.size,m.size] b c m Q l->IT (dg ([i.size,f.size,d.size,m.size]++a) l) R q ap->Q<=P+10->PP IT Tr a b c m (P+10) (.agg #[N.v R,N.v q]) (aV l d.size 0 [.s R,.s q]):=λh u o=>h.j7 IT.mn Y bO u trivial o;refine⟨λ_=>j7 b9 (A9.it V cl) V,λhn=>?_⟩;have hB:∀h∈[b],h∈[i.size,f.size,d.size,m.size]++a:=by simp[Z]
 have U:∀{l n:E}{C:aA},rG ([i.size,f.size,d.size,m.size]++a) m l L q x.1 C->Fz [b] l n->rG ([i.size,f.size,d.size,m.size]++a) m n L q x.1 C:=λo p=>o.re p hB (λh r=>⟨bu r,cp (o.lt h r) p.aP⟩) bW;refine b9.lC F V (λ_ o=>o) 8 λaH G _ _ j aq=>?_;have T:=U A9 aq;have au:Le (dg (q.bq::([f.size,d.size,m.size]++a)) i) (dg (q.bq::([i.size,f.size,d.size,m.size]++a)) G):=(x9.dg λh r=>by
  simp only[eT,gY,aY]at r⊢;rcases r with e|e|e
  .exact bu (bu e)
  .exact bG V
  .exact bu (bG e)).O (aq.eU (by simp[Z]))
 have ha:=aE.le au;have r:=aF.le au;have aw:∀{l n:E},Fz [b] l n->Le (dg (q.bq::([i.size,f.size,d.size,m.size]++a)) l) (dg (q.bq::([i.size,f.size,d.size,m.size]++a)) n):=λp=>p.eU (by simp[Z]);have py:=rG.pF ok (aZ A);have done:∀{l:E}{Q:Nat}{D:ae}{ay:dP},BS [i.size,f.size,d.size,m.size] b c m Q l->rG ([i.size,f.size,d.size,m.size]++a) m l L q x.1 C->oB (dg (q.bq::([i.size,f.size,d.size,m.size]++a)) l) D ay->Q<=P+10->
  0<=p/\p<(q.len:Int)/\iQ l q.bq (q.off+p.toNat*5) 5/\(gL [i.size,f.size,d.size,m.size] l (aV l q.bq (q.off+p.toNat*5) D)/\PP IT Tr a b c m (P+10) (.agg #[N.v L,N.v q]) (aV (aV l q.bq (q.off+p.toNat*5) D) d.size 0 [.s L,.s q])):=λ{l Q D ay} h I hp hQ=>by
  let⟨W,ps,tt⟩:=I.afb h.s.f V cl (k:=p.toNat) V hp
  have yq:=I.g.cD
  exact⟨f0,V,W,λw O=>cg _ _ _ _ λe=>I.nq (by rw[<-e];exact dK _ O),j7 ⟨h.s.cB Y yq.1 _ _,λw O=>by rw[bD];exact h.jW w O⟩ tt hQ⟩
 have v:∀{l n:E}{Q:Nat},BS [i.size,f.size,d.size,m.size] b c m Q l->Fz [b] l n->∀s,aR n i.size s=aR l i.size s:=λh p s=>kg p F (h.jW _ bO) s;have X:∀{l n:E}{Q:Nat},BS [i.size,f.size,d.size,m.size] b c m Q l->Fz [b] l n->∀s,aR n f.size s=aR l f.size s:=λh p s=>kg p F (h.jW _ bO) s;have al:=T.cF (aZ A) py.pF;have ar:=j.hS hS;have lq:∀w∈q.bq::([i.size,f.size,d.size,m.size]++a),w<G.size:=λw O=>(aY.1 O).elim (λe=>e▸T.g.cD.2) (ar w);have lW:∀(ls:ab){D:ae}{ag:Nat},D=ls.map Ce.i->ag=ls.length->0<ls.length/\ls.length<=100->∀{aj:Int->E->Prop},(∀u n,BS [i.size,f.size,d.size,m.size] b c m (P+4) n->rG ([i.size,f.size,d.size,m.size]++a) m n L q x.1 C->Le (dg (q.bq::([i.size,f.size,d.size,m.size]++a)) G) (dg (q.bq::([i.size,f.size,d.size,m.size]++a)) n)->(∀s,aR n i.size s=aR (G.push (.cells (de D) bE)) i.size s)->(∀s,aR n f.size s=aR (G.push (.cells (de D) bE)) f.size s)->aj u n)->
  bJ dN 77 [vp b 0,N.v (.mk G.size 0 ag ag)] (G.push (.cells (de D) bE)) λah n=>gL [i.size,f.size,d.size,m.size] (G.push (.cells (de D) bE)) n/\∃u:Int,ah=vi u/\aj u n:=λls{D ag} h1 h2 h3{aj} hk=>by
  have x:=J.push G (.cells (de D) bE)
  have K:=j.to (x.fz _) (j.s.r.ext x)
  exact(HN j.s V ls h1 h2 h3).aO λ_ n⟨u,e,_,aJ,p⟩=>⟨(K.lw F λ_ o=>o).fq p,u,e,hk u n (K.to p aJ.r) (U T ((x.fz _).O p)) (aw ((x.fz _).O p)) (v K p) (X K p)⟩
 refine⟨λ_=>?_,λ_=>⟨λ_=>?_,λ_=>⟨λ_=>?_,λ_=>⟨λ_=>?_,λ_=>?_⟩⟩⟩⟩
 .refine(AM j.s.r V (r.le fG) (oh py.cR)).aO λ_ aa⟨R,H,e,ak,az,_,ai,t⟩=>⟨(j.lw F λ_ o=>o).fq t,R,e,v j t _,v j t _,v j t _,v j t _,X j t _,?_⟩;exact done (ay:=⟨g.1.aX,H,g.1.bL,g.1.aT,g.1.cF⟩) (j.to t ai) (U T t) ⟨ac,R,g.2,rfl,ha.le (aw t),GI.cz (GI.jQ ak) lq (by have:=py.cR;show H.length<=_;omega),(U T t).cF (aZ A) py.pF⟩ V
 .have x:=(J.push G (.cells (de [.i 0,.i 1,.i (eR (g.1.aT+1)),.i 2001,.i (-1)]) bE)).fz [b];exact⟨v j x _,v j x _,v j x _,v j x _,X j x _,lW [0,1,eR (g.1.aT+1),2001,-1] rfl rfl bO λu n b' I le H e4=>⟨H _,H _,H _,H _,e4 _,done (ay:=⟨g.1.aX,g.1.cR,g.1.bL,u,g.1.cF⟩) b' I ⟨ac,h,g.2,rfl,ha.le le,r.le le,I.cF (aZ A) py.pF⟩ V⟩⟩
 .have x:=(J.push G (.cells (de [.i 0,.i 1,.i 9]) bE)).fz [b];have cl:=al.aS;have cc:=al.lZ;have c0:=py.iT;have cf:=py.pF;have ew:eR ((g.2.len:Int) -1)=((g.2.len -1:Nat):Int):=by rw[dt V V];omega
  rw[ew];refine⟨dR 0,V,V,v j x _,v j x _,v j x _,v j x _,v j x _,X j x _,lW [0,1,9] rfl rfl bO λu n b' I le H e4=>⟨H _,H _,H _,H _,H _,e4 _,done (ay:=⟨g.1.aX,g.1.cR,u,g.1.aT,g.1.cF.take (g.2.len -1)⟩) b' I ⟨ac,h,g.2.cut 0 (g.2.len -1) 6,rfl,ha.le le,r.le le,fU.Sj (I.cF (aZ A) py.pF) V⟩ V⟩⟩
 .refine(NF ar (by simp[Z]) j.s.r V).aO λ_ aa⟨R,H,e,hd,ai,t⟩=>⟨(j.lw F λ_ o=>o).fq t,R,e,X j t _,?_⟩;exact j7 (ap:=(H,_)) (j.to t ai) ⟨hd,((U T t).it V cl).2⟩ V
 .have aM:=al.aS;have aL:=py.iT;refine j.lC F V (λ_ o=>o) (g.2.len:Int) λaI aa j0 j1 K t=>?_;have H:=U T t;obtain⟨-,-,-,-,-,-,aB,-,-⟩:=H.kV A;let⟨ap,hz⟩:=dY g.1.cF aI.toNat;let⟨a',jj,aC,hj,e0,e1,e2,e3,e4,e5⟩:=(H.cF (aZ A) py.pF).D hz;have jW:∀{h s:Nat}{ah:Value},aR (dg (q.bq::([i.size,f.size,d.size,m.size]++a)) aa) h s=some ah->aR aa h s=some ah:=λo=>(gV.1 o).2;refine⟨f0,V,g.2,aB,j0,V,_,jW e0,_,jW e1,_,jW e2,_,jW e3,_,jW e4,_,jW e5,?_⟩;have hZ:∀w∈q.bq::(Ks C++([i.size,f.size,d.size,m.size]++a)),w<aa.size:=λw O=>by
   rcases aY.1 O with e|e
   .rw[e];exact H.g.cD.2
   .rcases bR.1 e with e|e
    .obtain⟨W,hw,rfl⟩:=fu.1 e;exact(H.c W hw).cD.2
    .exact H.lt w e
  refine(KM hZ K.s.r V (aC.le fG) (hj.le fG) (py.rU ap (aZ hz))).aO λ_ aO⟨z',a2,j2,e,aD,aG,_,aK,I⟩=>⟨(K.lw F λ_ o=>o).fq I,_,_,_,_,_,_,e,?_⟩;have ai:=U H I;have ak:=K.to I aK;let⟨W,az⟩:=ai.wr ak.s.f A (bA hz) (cs:=[.i z'.op,.i z'.br,.i z'.cE,.i z'.cY,.s a2,.s j2]) (y:=z') ⟨a2,j2,rfl,aD,aG⟩;have yc:=(ai.c g (aZ A)).cD;have yq:=H.g.cD;refine⟨kg I F yq _,X K I _,j0,V,W,λh r=>cg _ _ _ _ λe=>(ai.nc g (aZ A)) (by rw[<-e];exact dK _ r),j7 ⟨ak.s.cB Y yc.1 _ _,λw O=>by rw[bD];exact ak.jW w O⟩ (az.it fj λW hw=>?_) V⟩;rcases iS hw with e|e
  .exact cl W e
  .rw[e];simpa using py.pF
def NG(f:∀d∈a,d<m.size)(k:b∈a)(d:Rd b c P m)(K:P+2000+4*(300+40*Cg 18)<=10^16):bJ dN 45 [vp b 0] m (PP IT Tr a b c m (P+50+4*(300+40*Cg 18))):=by
 apply Gy (b,0);simp -zeta only[dU];have e:=d.lt;intro n;obtain⟨b1,-⟩:BS [m.size] b c m P n/\True:=⟨(BS.lW (S:=a) d).1,trivial⟩;clear_value n;refine b1.jr (S:=a) e (λ_ h=>h) (Mc (b1.hS f) (by simp[k]) b1.s.r V) λH Q R o r t2 b2 I=>?_;intro y p;obtain⟨b4,w,-⟩:=b2.bT (S:=a) (m1:=y) (m2:=p) rfl rfl rfl;clear_value p;have C:=IT.mn _ _ _ _ _ w t2;have j:b∈[o.size,m.size]++a:=by simp[k]
 refine b4.lC e V (λ_ h=>h) 4 λL M _ _ b5 u=>?_;have q:=IT.mn _ _ _ _ _ (BS.le k u) C;refine⟨λ_=>?_,λ_=>b5.jr (S:=a) e (λ_ h=>h) (yW (b5.hS f) j b5.s.r V q r 14) λt B G z F l i v=>i.j7 IT.mn d bO l trivial V⟩;refine b5.jr (S:=a) e (λ_ h=>h) (LR (b5.hS f) j b5.s.r V q r) λs A T N E D b6 J=>?_;intro O;let⟨g,x⟩:=b6.cB (S:=a) d (by simp:o.size∈_) [.s s,.s A];exact g.jr (S:=a) e (λ_ h=>h) (yW (g.hS f) j g.s.r V (IT.mn _ _ _ _ _ x D) E 14) λt B G z F l i v=>i.j7 IT.mn d bO l trivial V
end
section
variable{a:Nat}{c:dD}{l:ab}{x:N}{K:N->E->Prop}{i:Int}
def Q5{l r:ae}{o:Nat}{c:Ce}(h:l.length<=o):(l++r).set o c=l++r.set (o -l.length) c:=by
 grind [List.set_append_right]
theorem oI:∀(a l r:ae)(o:Nat),l.length<=o->jh (l++r) o a=l++jh r (o -l.length) a
 |[],l,r,o,_=>rfl
 |c::a,l,r,o,h=>by
  simp only[jh];rw[Q5 h,oI a l _ (o+1) V];congr 2;omega
theorem rT:∀(a l r:ae)(o:Nat),o+a.length<=l.length->jh (l++r) o a=jh l o a++r
 |[],l,r,o,_=>rfl
 |c::a,l,r,o,h=>by
  simp only[dE]at h;simp only[jh];rw[QJ _ _ V,rT a _ _ (o+1) cG]
def wT{f:Nat}:∀(b:List ae)(a:Nat)(e:ae)(o:Nat)(d:ae),(∀c∈b,c.length=f)->b[a]? =some e->o+d.length<=f->jh b.flatten (a*f+o) d=(b.set a (jh e o d)).flatten
 |[],a,e,o,d,_,h,_=>by simp at h
 |x::b,0,e,o,d,g,h,i=>by
  grind [List.mem_cons_self,List.flatten_cons,rT]
 |x::b,a+1,e,o,d,g,h,i=>by
  have l:=g x cK;rw[tf,oI _ _ _ _ cG,vZ,tf];have j:(a+1)*f+o -x.length=a*f+o:=by grind [Nat.add_mul]
  rw[j,wT b a e o d (λc k=>g c (aW _ k)) cG i]
def _root_.Go.Vc.fK.eB{α:Type}{b:Nat}{R:ae->α->Prop}{c:List ae}{l:List α}(h:fK b R c l)(a:Nat){cs:ae}{x:α}(d:cs.length=b)(e:R cs x):fK b R (c.set a cs) (l.set a x):=by
 constructor<;>grind [fK.aS,List.mem_or_eq_of_mem_set,fK.aP,bA,List.getElem?_set_self,List.getElem?_set_ne,fK.eN]
def _root_.Go.Vc.fK.ME{α:Type}{b:Nat}{R:ae->α->Prop}{a:List ae}{l:List α}(h:fK b R a l)(n:Nat):fK b R (a.take n) (l.take n):=by
 constructor<;>grind [fK.aS,fK.aP,List.mem_of_mem_take,bA,List.getElem?_take_of_lt,fK.eN]
def JW{b:Nat}:∀(a:List ae)(n:Nat),(∀c∈a,c.length=b)->a.flatten.take (n*b)=(a.take n).flatten
 |[],n,_=>bO
 |x::a,0,_=>bO
 |x::a,n+1,h=>by
  have f:=h x cK;rw[tf,List.take_append,yd cG,List.take_succ_cons,tf];have e:(n+1)*b -x.length=n*b:=by grind [Nat.add_mul]
  rw[e,JW a n λc d=>h c (aW _ d)]
section
variable{e:Nat}{d:ag}{m:E}{b:N}{h:ah}
def gF.aS(f:gF e d m b h):b.len=h.length:=by
 obtain⟨g,c,a,_⟩:=f;have:=c.aS;rw[eE a.aP,a.aS]at this;omega
def gF.dz(s:gF e d m b h)(g:h[a]? =some c):∃f,aR m b.bq (b.off+a*3)=some (vi c.ct)/\aR m b.bq (b.off+a*3+1)=some (vi c.jJ)/\aR m b.bq (b.off+a*3+2)=some f.v/\bd m f c.bU/\FN e d m f c.bU:=by
 obtain⟨n,p,j,_⟩:=s;let⟨l,k⟩:=dY n a cG;obtain⟨f,rfl,q,o⟩:=j.eN a l c k g;have r:=λi c g=>p.kV (a*3+i) c (jY j.aP k g);exact⟨f,r 0 (.i c.ct) rfl,r 1 (.i c.jJ) rfl,r 2 (.s f) rfl,q,o⟩
def gF.kG(j:gF e d m b h)(u:h.length<=9223372036854775807):jF m b h:=by
 have s:=j.aS;obtain⟨n,a,f,_⟩:=j;refine⟨s,a.le,V,λk x r=>?_⟩;let⟨l,g⟩:=dY n k cG;obtain⟨o,rfl,q,t⟩:=f.eN k l x g r;refine⟨_,⟨o,rfl,q⟩,λi c p=>?_⟩;have:=a.kV (k*3+i) c (jY f.aP g p);grind [Nat.add_assoc]
def gF.wr(i:gF e d m b h){a o n:Nat}(g:a<h.length)(k:o+n<=3):iQ m b.bq (b.off+a*3+o) n:=by
 obtain⟨j,f,c,_⟩:=i;rw[jP];exact f.wr (by rw[eE c.aP,c.aS];have:(a+1)*3<=h.length*3:=fg _ g;omega)
def gF.bq(f:gF e d m b h){a:Nat}(j:a<h.length):d b.bq=3/\b.bq<m.size:=by
 have k:=f.aS;obtain⟨g,c,i,_⟩:=f;have:=c.le;have:=c.bq V;exact⟨this.2,this.1⟩
def XH(e:Nat)(d:ag)(m:E)(b:N)(h:ah)(f:N)(l:ab):Prop:=
 l≠[]->(d f.bq=0/\e<=f.bq/\FB m f l)/\∀(i:Nat)(g:N),i<h.length->aR m b.bq (b.off+i*3+2)=some g.v->g.len≠0->g.bq≠f.bq
def FB.jM{a:E}{f:N}(h:jo a m bE 1 f (l.map Ce.i))(d:l≠[]):a.size<=f.bq/\FB m f l:=by
 rcases h.D with e|⟨b,c,tail,e,h2,h3,_,_⟩
 .grind [jo.aS,List.length_map,N.SC,List.length_eq_zero_iff]
 .rw[e];exact⟨h2,c,tail,rfl,h3⟩
def XH.of{a:E}{x:ag}{f:N}(r:gF e x a b h)(t:0<h.length->m[b.bq]? =a[b.bq]?)(v:l≠[]->jo a m bE 1 f (l.map Ce.i))(n:l≠[]->d f.bq=0)(B:e<=a.size):XH e d m b h f l:=λg=>by
 let⟨A,o⟩:=FB.jM (v g) g;refine⟨⟨n g,V,o⟩,λi y s j q=>?_⟩;let⟨c,p⟩:=jk s;obtain⟨z,_,_,w,kf,_⟩:=r.dz p;rw[bB (t V),w]at j;have:=N.XA.1 (Option.some.inj j);subst this;have u:c.bU≠[]:=λk=>by have:=kf.aS;rw[k]at this;simp at this;exact q this
 have:=lG kf u;omega
def gF.cB(H:gF e d m b h)(Z:∀j,m.size<=j->d j=0){o:Nat}{n:dD}(E:h[a]? =some c){new:ae}(U:o+new.length<=3)
 (Q:∀f,bd m f c.bU->FN e d m f c.bU->∃g,jh [.i c.ct,.i c.jJ,.s f] o new=[.i n.ct,.i n.jJ,.s g]/\bd m g n.bU/\FN e d m g n.bU/\(g=f\/XH e d m b h g n.bU)):
 gF e d (aV m b.bq (b.off+a*3+o) new) b (h.set a n)/\dZ (λk=>k=3) d m d (aV m b.bq (b.off+a*3+o) new):=by
 have I:=bA E
 have Y:=H.bq I
 have F:dZ (λk=>k=3) d m d (aV m b.bq (b.off+a*3+o) new):=by grind [dZ.aV]
 let⟨t,A,r,B⟩:=H
 let⟨M,w⟩:=dY t a cG
 obtain⟨f,rfl,R,O⟩:=r.eN a M c w E
 let⟨g,z,G,P,hd⟩:=Q f R O
 have aa:∀(l:Nat)(q:ae)(j:N),t[l]? =some q->q[2]? =some (.s j)->l≠a->g.len≠0->j.len≠0->g.bq≠j.bq:=λl q j s D T u v=>by
  rcases hd with rfl|hd
  .exact B a l _ q g j w s rfl D (λp=>T p.symm) u v
  .have y:n.bU≠[]:=λp=>by have:=G.aS;rw[p]at this;simp at this;exact u this
   refine ur ((hd y).2 l j cG ?_ v);have:=A.kV (l*3+2) _ (jY r.aP s D);rwa[<-jP]at this
 refine⟨⟨t.set a (jh [.i c.ct,.i c.jJ,.s f] o new),?_,?_,?_⟩,F⟩
 .rw[<-wT t a _ o new r.aP w U,jP]
  exact A.eB (by rw[eE r.aP,r.aS];have:(a+1)*3<=h.length*3:=fg _ I;omega)
 .rw[z]
  exact(r.eB a rfl ⟨g,rfl,G,P⟩).aO (MM.gX F cH)
 .rw[z]
  have C:=bA w
  intro i l L q x X y s V W S u v
  by_cases J:i=a
  .subst J
   rw[ft C]at y
   grind [List.getElem?_set_ne]
  .rw[iY (λp=>J p.symm)]at y
   by_cases K:l=a
   .subst K
    rw[ft C]at s
    grind
   .rw[iY (λp=>K p.symm)]at s
    exact B i l L q x X y s V W S u v
def gF.xG(k:gF e d m b h)(l:∀f,m.size<=f->d f=0)(i:h[a]? =some c)(n:Int):
 gF e d (aV m b.bq (b.off+a*3) [.i n]) b (h.set a {c with ct:=n})/\dZ (λf=>f=3) d m d (aV m b.bq (b.off+a*3) [.i n]):=
 k.cB l i (o:=0) (new:=[.i n]) bO λf j g=>⟨f,rfl,j,g,bu rfl⟩
def gF.pI(p:gF e d m b h)(r:∀f,m.size<=f->d f=0)(i:a<h.length)(n t:Int){f:N}(k:bd m f l)(g:XH e d m b h f l):
 gF e d (aV m b.bq (b.off+a*3) [.i n,.i t,.s f]) b (h.set a ⟨n,t,l⟩)/\dZ (λj=>j=3) d m d (aV m b.bq (b.off+a*3) [.i n,.i t,.s f]):=by
 let⟨c,j⟩:=jk i
 exact p.cB r j (o:=0) (new:=[.i n,.i t,.s f]) bO λs v u=>⟨f,rfl,k,λq=>(g q).1,bG g⟩
def gF.rc(k:gF e d m b h){n:Nat}(w:n<=h.length):gF e d m (b.cut 0 n 3) (h.take n):=by
 have v:=k.aS;let⟨g,r,j,s⟩:=k;refine⟨g.take n,by rw[<-JW g n j.aP];exact r.rc V,j.ME n,λi l p q a o c f=>?_⟩;have t:i<n:=by have:=bA c;simp at this;omega
 have u:l<n:=by have:=bA f;simp at this;omega
 rw[pP t]at c;rw[pP u]at f;exact s i l p q a o c f
def gF.push(G:gF e d m b h)(Q:∀c,m.size<=c->d c=0)(S:x.len=1){q t:Int}{f:N}(R:jt m x.bq x.off [.i q,.i t,.s f])(F:bd m f l)(D:XH e d m b h f l)(W:h.length<=2000000000)
 (O:∀A z y,gF e A y z (h++[⟨q,t,l⟩])->dZ (λk=>k=3) d m A y->K z y):lS m Cf [.i (0:Int),.i (0:Int),.s N.nil] 40 b x K:=by
 have U:=G.aS
 let⟨n,E,B,L⟩:=G
 refine iJ.fy (f:=[.i 0,.i 0,.s .nil]) (new:=[.i q,.i t,.s f]) E Q (by simp[S]) R V λA z y T I=>O A z y ⟨n++[[.i q,.i t,.s f]],sp T,(B.By (cs:=[.i q,.i t,.s f]) (x:=⟨q,t,l⟩) rfl ⟨f,rfl,F,λg=>(D g).1⟩).aO (MM.gX I cH),?_⟩ I
 have H:∀(p:Nat)(r:ae)(c:N),n[p]? =some r->r[2]? =some (.s c)->f.len≠0->c.len≠0->f.bq≠c.bq:=λp r c w u g o=>by
  have P:l≠[]:=λJ=>by have:=F.aS;rw[J]at this;simp at this;exact g this
  refine ur ((D P).2 p c (by rw[<-B.aS];exact bA w) ?_ o);have:=E.kV (p*3+2) _ (jY B.aP w u);rwa[<-jP]at this
 have C2:∀{i:Nat}{k:ae}{a:N},(n++[[.i q,.i t,.s f]])[i]? =some k->k[2]? =some (.s a)->n[i]? =some k\/(i=n.length/\a=f):=λ{i k a} j s=>by
  rcases eJ i n.length with g|g
  .rw[dX g]at j;exact bu j
  .rw[dL g]at j;have o:i -n.length=0:=by have:=bA j;simp at this;omega
   rw[o]at j;simp at j;subst j;simp at s;exact bG ⟨V,s.symm⟩
 intro i p k r a c j w s u M g o
 rcases C2 j s with C|⟨C,rfl⟩
 .rcases C2 w u with v|⟨v,rfl⟩
  .exact L i p k r a c C v s u M g o
  .exact ur (H i k a C s o g)
 .rcases C2 w u with v|⟨v,rfl⟩
  .exact H p r c v u g o
  .omega
end
@[grind cases] structure rD (ro:ag) (m:E) (fr:N) (fs:ak) (f:bS) (r o h:N) (css:List ae):Prop where
 rE:iJ ro m iz 6 4 fr (css.flatten++[.i f.fY,.i f.pc,.i f.br,.s r,.s o,.s h])
 aS:css.length=fs.length
 aP:∀cs∈css,cs.length=6
 eN:∀(i:Nat)(cs:ae)(g:bS),css[i]? =some cs->fs[i]? =some g->YB ro m i cs g
 aT:iJ ro m bE 1 (10+3*fs.length) r (f.aT.map Ce.i)
 bF:iJ ro m bE 1 (11+3*fs.length) o (f.bF.map Ce.i)
 cQ:iJ ro m bE 1 (12+3*fs.length) h (f.cQ.map Ce.i)
section
variable{d l:ag}{m k:E}{b:N}{a:ak}{f:bS}{r e h:N}{j:List ae}
theorem sk.jz(l:sk d m b (a++[f])):∃r e h j,rD d m b a f r e h j:=by
 let⟨j,p,w,q,o⟩:=l;have n:j≠[]:=cG;have k:j=j.dropLast++[j.getLast n]:=(rY n).symm;generalize j.dropLast=c0 at k;generalize j.getLast n=cl at k;subst k;have t:c0.length=a.length:=cG;obtain⟨r,e,h,rfl,v,u,l⟩:=o a.length cl f cG bO;refine⟨r,e,h,c0,sp p,t,λc s=>q c (by simp[s]),λi c g x y=>o i c g ?_ ?_,v,u,l⟩
 .grind [List.getElem?_append_left,bA]
 .grind [List.getElem?_append_left,bA]
def rD.qd(T:rD d m b a f r e h j):sk d m b (a++[f]):=by
 refine⟨j++[[.i f.fY,.i f.pc,.i f.br,.s r,.s e,.s h]],sp T.rE,by simp[T.aS],λk p=>?_,λi k o c g=>?_⟩
 .grind [rD.aP]
 .rcases eJ i a.length with l|l
  .grind [List.getElem?_append_left,rD.aS,rD.eN]
  .have n:i=a.length:=by have:=bA g;simp at this;omega
   subst n;rw[dL cG]at c;simp[T.aS]at c g;subst c;subst g;exact⟨r,e,h,rfl,T.aT,T.bF,T.cQ⟩
theorem rD.DT(T:rD d m b a f r e h j):b.len=a.length+1:=by
 have:=T.rE.aS;simp only[dj,eE T.aP,T.aS,dE,kD]at this;omega
def rD.kV(T:rD d m b a f r e h j):aR m b.bq (b.off+a.length*6)=some (vi f.fY)/\aR m b.bq (b.off+a.length*6+1)=some (vi f.pc)/\aR m b.bq (b.off+a.length*6+2)=some (vi f.br)/\
 aR m b.bq (b.off+a.length*6+3)=some r.v/\aR m b.bq (b.off+a.length*6+4)=some e.v/\aR m b.bq (b.off+a.length*6+5)=some h.v:=by
 have l:j.flatten.length=a.length*6:=by rw[eE T.aP,T.aS]
 have g:=λ(i:Nat)(c:Ce)(k:[Ce.i f.fY,Ce.i f.pc,Ce.i f.br,Ce.s r,Ce.s e,Ce.s h][i]? =some c)=>T.rE.kV (a.length*6+i) c (by rw[dL V,l,acn];exact k)
 exact⟨g 0 (.i f.fY) rfl,g 1 (.i f.pc) rfl,g 2 (.i f.br) rfl,g 3 (.s r) rfl,g 4 (.s e) rfl,g 5 (.s h) rfl⟩
def rD.gX{p:Nat->Prop}(T:rD d m b a f r e h j)(g:dZ p d m l k)(i:∀c,(c=4\/10<=c)->¬p c):rD l k b a f r e h j:=
 by constructor<;>grind [rD.rE,iJ.gX,rD.aS,rD.aP,rD.eN,YB.gX,rD.aT,rD.bF,rD.cQ]
def rD.ext(T:rD d m b a f r e h j)(g:∀c,m.size<=c->d c=0)(c:J m k):rD d k b a f r e h j:=T.gX (dZ.fV (p:=λ_=>False) c g) λ_ _=>id
def rD.Cr{p:Nat->Prop}(T:rD d m b a f r e h j)(s:dZ p d m l k)(t:∀c,10<=c->c<10+3*a.length->¬p c):∀(i:Nat)(g:ae)(n:bS),j[i]? =some g->a[i]? =some n->YB l k i g n:=λi g n q o=>
 (T.eN i g n q o).gX s λc u _=>t c V (oh (bA o))
def rD.IE(T:rD d m b a f r e h j)(p:∀c,m.size<=c->d c=0)(n:0<=i)(g:i<f.aT.length)(v:Int):
 rD d (aV m r.bq (r.off+i.toNat*1) [.i v]) b a {f with aT:=gT f.aT i v} r e h j/\dZ (λk=>4<=k/\k≠9) d m d (aV m r.bq (r.off+i.toNat*1) [.i v]):=by
 have o:r.cap≠0:=λl=>by have:=(T.aT.zV l).1;simp at this;rw[this]at g;simp at g;omega
 have c:dZ (λk=>k=10+3*a.length) d m d (aV m r.bq (r.off+i.toNat*1) [.i v]):=dZ.aV p (T.aT.bq o).2 _ _
 exact⟨⟨T.rE.gX c V,T.aS,T.aP,T.Cr c λk _ q=>V,T.aT.gT n g v,T.bF.gX c V,T.cQ.gX c V⟩,c.aO λk q=>V⟩
def rD.tX(T:rD d m b a f r e h j)(p:∀c,m.size<=c->d c=0)(n:0<=i)(g:i<f.bF.length)(v:Int):
 rD d (aV m e.bq (e.off+i.toNat*1) [.i v]) b a {f with bF:=gT f.bF i v} r e h j/\dZ (λk=>4<=k/\k≠9) d m d (aV m e.bq (e.off+i.toNat*1) [.i v]):=by
 have o:e.cap≠0:=λl=>by have:=(T.bF.zV l).1;simp at this;rw[this]at g;simp at g;omega
 have c:dZ (λk=>k=11+3*a.length) d m d (aV m e.bq (e.off+i.toNat*1) [.i v]):=dZ.aV p (T.bF.bq o).2 _ _
 exact⟨⟨T.rE.gX c V,T.aS,T.aP,T.Cr c λk _ q=>V,T.aT.gX c V,T.bF.gT n g v,T.cQ.gX c V⟩,c.aO λk q=>V⟩
def rD.Gc(T:rD d m b a f r e h j)(p:∀c,m.size<=c->d c=0)(n:0<=i)(g:i<f.cQ.length)(v:Int):
 rD d (aV m h.bq (h.off+i.toNat*1) [.i v]) b a {f with cQ:=gT f.cQ i v} r e h j/\dZ (λk=>4<=k/\k≠9) d m d (aV m h.bq (h.off+i.toNat*1) [.i v]):=by
 have o:h.cap≠0:=λl=>by have:=(T.cQ.zV l).1;simp at this;rw[this]at g;simp at g;omega
 have c:dZ (λk=>k=12+3*a.length) d m d (aV m h.bq (h.off+i.toNat*1) [.i v]):=dZ.aV p (T.cQ.bq o).2 _ _
 exact⟨⟨T.rE.gX c V,T.aS,T.aP,T.Cr c λk _ q=>V,T.aT.gX c V,T.bF.gX c V,T.cQ.gT n g v⟩,c.aO λk q=>V⟩
def rD.bq(T:rD d m b a f r e h j):d b.bq=4/\b.bq<m.size:=by
 have:=T.DT;have:=T.rE.le;have:=T.rE.bq V;exact⟨this.2,this.1⟩
def rD.RP(T:rD d m b a f r e h j)(i:∀c,m.size<=c->d c=0)(v:Int):
 rD d (aV m b.bq (b.off+a.length*6+1) [.i v]) b a {f with pc:=v} r e h j/\dZ (λk=>4<=k/\k≠9) d m d (aV m b.bq (b.off+a.length*6+1) [.i v]):=by
 have c:dZ (λk=>k=4) d m d (aV m b.bq (b.off+a.length*6+1) [.i v]):=dZ.aV i T.bq.1 _ _
 refine⟨⟨?_,T.aS,T.aP,T.Cr c λk l n=>V,T.aT.gX c V,T.bF.gX c V,T.cQ.gX c V⟩,c.aO λk p=>V⟩
 have g:j.flatten.length=a.length*6:=by rw[eE T.aP,T.aS]
 have:=T.rE.eB (o:=a.length*6+1) (new:=[.i v]) (by simp[g])
 rw[oI _ _ _ _ V,g,acn]at this
 rw[jP];exact this
def rD.aaX(T:rD d m b a f r e h j):iQ m b.bq (b.off+a.length*6+1) 1:=by
 rw[jP];exact T.rE.wr (by simp only[dj,eE T.aP,T.aS,dE,kD];omega)
end
def sk.pop{d:ag}{m:E}{c:N}{a:ak}{f:bS}(e:sk d m c (a++[f])):sk d m (c.cut 0 a.length 6) a:=by
 let⟨r,o,h,b,T⟩:=e.jz;have g:b.flatten.length=a.length*6:=by rw[eE T.aP,T.aS]
 have:=T.rE.rc (n:=a.length) cG;rw[rh V,yd V]at this;exact⟨b,this,T.aS,T.aP,T.eN⟩
def sk.push{d:ag}{m:E}{l:N}{b:ak}(D:sk d m l b)(F:∀a,m.size<=a->d a=0)(H:x.len=1){a:bS}{c j g:N}(G:jt m x.bq x.off [.i a.fY,.i a.pc,.i a.br,.s c,.s j,.s g])
 (y:iJ d m bE 1 (10+3*b.length) c (a.aT.map Ce.i))(z:iJ d m bE 1 (11+3*b.length) j (a.bF.map Ce.i))(A:iJ d m bE 1 (12+3*b.length) g (a.cQ.map Ce.i))(O:b.length<=1000000)
 (n:∀k c e,sk k e c (b++[a])->dZ (λp=>p=4) d m k e->K c e):lS m iz [.i (0:Int),.i (0:Int),.i (0:Int),.s N.nil,.s N.nil,.s N.nil] 96 l x K:=by
 let⟨v,q,s,t,J⟩:=D
 have M:l.len=b.length:=by have:=q.aS;rw[eE t,s]at this;omega
 refine iJ.fy (f:=[.i 0,.i 0,.i 0,.s .nil,.s .nil,.s .nil]) (new:=[.i a.fY,.i a.pc,.i a.br,.s c,.s j,.s g]) q F (by simp[H]) G V λk L e I p2=>n k L e ?_ p2
 exact rD.qd (f:=a) (a:=b) (j:=v) (r:=c) (e:=j) (h:=g) ⟨sp I,s,t,λi u w B C=>(J i u w B C).gX p2 λp n _=>V,y.gX p2 V,z.gX p2 V,A.gX p2 V⟩
end
section
variable{m:E}{d:ah}{g:ag}{b k s j:Nat}{q r:ab}{c:dD}{i:Int}{e:Nat->Int}
def DU:∀(d:ah)(k:Nat),k<=d.length->(∀c∈d.take k,c.ct≠0)->k<=fD d
 |[],k,a,_=>by simp at a;simp[a]
 |c::d,0,_,_=>jb _
 |c::d,k+1,a,b=>by
  have f:=b c bO;have:=DU d k cG (λe hd=>b e (by simp[hd]));grind [fD]
def Lm:∀(d:ah)(k:Nat)(c:dD),(∀b∈d.take k,b.ct≠0)->d[k]? =some c->c.ct=0->fD d=k
 |[],k,c,_,a,_=>by simp at a
 |b::d,0,c,_,a,e=>by simp at a;subst a;simp[fD,e]
 |b::d,k+1,c,f,a,e=>by
  have h:=f b bO;have:=Lm d k c (λx g=>f x (by simp[g])) cG e;grind [fD]
def Ky{i:N}(g:jF m i d):Gg dN 213 [i.v] m (vi (fD d)):=by
 apply EO;have p:=g.aS;refine ik (n:=d.length) (p▸g.kA) (λk a=>J m a/\∀c∈d.take k,c.ct≠0) ⟨di,bO⟩ ?_;rintro k t I μ o ⟨a,h⟩ q
 refine dit (λl=>?_) λl=>?_
 .let⟨c,f⟩:=dY d k;obtain⟨r,s,j,_⟩:=(jF.ext a g).D f;refine⟨V,V,c.ct,sp j,λb=>⟨?_,a⟩,λb=>q V _ ⟨a,eC f h (sp b)⟩⟩;rw[Lm d k c h f (sp b)]
 .refine⟨?_,a⟩;have:=DU d k o h;have:=sY d;have e:(i.len:Int)=(fD d:Int):=V;rw[e]
def p7(g:ag)(b k:Nat):Nat->Nat:=λc=>if c=b then k else g c
theorem iP:p7 g b k b=k:=ba rfl
theorem fO{c:Nat}(d:c≠b):p7 g b k c=g c:=aU d
def dZ.p7{p:Nat->Prop}{a:E}(f:J m a)(e:∀b,m.size<=b->g b=0)(c:m.size<=b)(d:b<a.size)(k:Nat):dZ p g m (p7 g b k) a:=
 by constructor<;>grind [J.aP,fO,J.bC]
def Rg{t:N}(f:gF s g m t d)(n:∀b,m.size<=b->g b=0){c:Nat}(Z:c<=d.length)(y:Int){H:N}(S:bd m H q)(U:d.length<=2000000000)(L:q.length<=1000000000)(J:s<=m.size):
 bJ dN 214 [t.v,vi c,vi y,H.v] m λY R=>∃w M,Y=M.v/\gF s w R M (jB d c ⟨1,y,q⟩)/\HC g m w R:=by
 apply Mr
 simp -zeta only[dU]
 refine(oJ S L).bZ L λF W o1 P I=>⟨F,rfl,?_⟩
 intro m2 a
 obtain⟨l,s3⟩:=pv a
 have u:=I.O l
 clear_value a
 have z:HC g m g a:=dZ.fV u n
 have D:=z.bI
 have B:gF s g a t d:=f.gX (dZ.fV (p:=λ_=>False) u n) id id
 have aa:=f.aS
 have Q:=P.ext l
 have O:q≠[]->g F.bq=0:=λT=>by
  rcases o1.bq with e|e
  .subst e;have:=P.aS;simp at this;exact absurd (cr.1 this.symm) T
  .exact n _ e
 have K:g W.size=0:=n _ I.aP
 refine⟨λe=>?_,λe=>?_⟩
 .simp at e
  intro v
  obtain⟨h,s4⟩:=pu v
  have np:jt v a.size 0 [.i 1,.i y,.s F]:=(dJ.push a _ _).kV
  have G:HC g m g v:=z.O (dZ.fV h D)
  clear_value v
  refine gF.push (B.gX (dZ.fV (p:=λ_=>False) h D) id id) G.bI (x:=.mk a.size 0 1 1) rfl np (Q.ext h) (XH.of f (λA=>(u.O h).bC _ (f.bq A).2) (λ_=>o1.ext (l.O h)) O J) U λw r X E j=>⟨λb i=>?_,w,r,rfl,?_,G.O (j.aO λk C=>bu C)⟩
  .simp at i;subst i
   exact j.fL _ V (by rw[K];decide)
  .rw[jB,ba V];exact E
 .simp at e
  have h:c<d.length:=V
  have v:Int.toNat (c:Int)=c:=V
  rw[v]
  refine⟨V,V,B.wr (o:=0) h cH,?_⟩
  intro X
  let⟨E,j⟩:=B.pI D h 1 y Q (XH.of f (λA=>u.bC _ (f.bq A).2) (λ_=>o1.ext l) O J)
  refine⟨λb i=>?_,g,t,rfl,?_,z.O (j.aO λk C=>bu C)⟩
  .simp at i;subst i
   exact j.fL _ V (by rw[K];decide)
  .rw[jB,aU V];exact E
def QE(b:d[j]? =some c)(a:c.ct≠0):lB d (j+1)=j+1:=by
 grind [lB]
def UW(b:d[j]? =some c)(a:c.ct=0):lB d (j+1)=lB d j:=by
 grind [lB]
def BY{a:N}(b:jF m a d):bJ dN 217 [a.v] m λv l=>v=N.v (a.cut 0 (lB d d.length) 3)/\J m l:=by
 apply On;have w:=b.aS;have t:=b.lZ;have x:=b.kA;refine⟨λi l=>J m l/\∃j:Nat,i=j/\j<=d.length/\lB d j=lB d d.length,λi _=>i.toNat,⟨di,d.length,V,bW,rfl⟩,?_⟩;rintro i r ⟨h,j,rfl,y,n⟩;have j7:lB d j=j->Value.slice=Value.slice->(0:Int)<=(0:Int)/\(0:Int)<=(j:Int)/\(j:Int)<=(a.cap:Int)/\(N.v (N.cut a (Int.toNat (0:Int)) (Int.toNat (j:Int)) 3)=N.v (a.cut 0 (lB d d.length) 3)/\J m r):=λe _=>by
  refine⟨V,V,V,?_,h⟩;rw[<-n,e];rfl
 refine dit (λq=>?_) λq=>?_
 .obtain⟨k,rfl⟩:∃k,j=k+1:=⟨j -1,V⟩;have o:eR (((k+1:Nat):Int) -1)=(k:Int):=by rw[iC];omega
  rw[o];let⟨c,g⟩:=dY d k;obtain⟨s,u,p,_⟩:=(jF.ext h b).D g;refine⟨V,V,c.ct,sp p,λf=>⟨⟨h,k,rfl,V,?_⟩,by show(k:Int).toNat<((k+1:Nat):Int).toNat;omega⟩,λf=>j7 (QE g (sp f)) rfl⟩;rw[<-n,UW g (sp f)]
 .have:j=0:=V;subst this;exact j7 rfl rfl
def iJ.pop{s:N}(d:iJ g m bE 1 k s ((q++[i]).map Ce.i)):s.len=q.length+1/\aR m s.bq (s.off+q.length*1)=some (vi i)/\iJ g m bE 1 k (s.cut 0 q.length 1) (q.map Ce.i):=by
 have a:s.len=q.length+1:=by have:=d.aS;simp at this;omega
 refine⟨a,?_,?_⟩
 .have:=d.kV q.length (.i i) bO;rw[H4];exact this
 .have:=d.rc (n:=q.length) V;grind [List.take_of_length_le]
def iW.WT(h:iW d (λb=>e b+kC (i::r) b))(c:∀b,0<=e b)(a:iH d i)(f:(bt d i).ct=1):iW (d.set (ix i) kN) (λb=>e b+kC ((bt d i).bU.reverse++r) b):=by
 let⟨g,j⟩:=dH a;refine iW.VR h g f ?_ cH cH rfl (by simp[kN]) (by simp[kN]) (λ_=>rfl) λb=>?_
 .simp only[lT a.1,ba];have:=c (ix i);have:=mR r (ix i);omega
 .simp only[lT a.1,qB,El];omega
def iW.TV(c:iW d (λb=>e b+kC (i::r) b))(g:∀b,0<=e b)(f:iH d i)(j:(bt d i).ct≠1):iW (iG d i) (λb=>e b+kC r b):=by
 let⟨a,h⟩:=dH f;have k:=(c.iu _ (aZ a)).hi;refine iW.Ov c a h V V (λb=>?_) ?_
 .simp only[lT f.1];split<;>omega
 .have:=g (ix i);have:=mR r (ix i);omega
def iW.WR(a:iW d (λb=>e b+kC (i::r) b))(c:i<1000):iW d (λb=>e b+kC r b):=
 by grind [iW.congr,kC]
def iW.TU(f:iW d (λb=>e b+kC (i::r) b))(c:∀b,0<=e b)(a:1000<=i):iH d i:=
 ⟨a,f.lv _ (by simp only[lT a,ba];have:=c (ix i);have:=mR r (ix i);omega)⟩
def Gl:ah->Nat
 |[]=>0
 |c::d=>c.bU.length+Gl d
def DV:∀{d:ah}{e:Nat}{c:dD}(b:dD),d[e]? =some c->Gl (d.set e b)+c.bU.length=Gl d+b.bU.length
 |[],e,c,b,d=>by simp at d
 |g::d,0,c,b,f=>by simp at f;subst f;simp only[mW,Gl];omega
 |g::d,e+1,c,b,f=>by
  have:=DV (d:=d) (e:=e) b (sp f);grind [Gl]
def Sv:∀{d:ah},(∀c∈d,c.bU.length<=3)->Gl d<=3*d.length
 |[],_=>by simp[Gl]
 |c::d,a=>by
  have:=Sv (λb hd=>a b (aW _ hd));have:=a c cK;grind [Gl,List.length_cons]
def Kw{E:N}(hh:gF s g m E d)(hn:∀b,m.size<=b->g b=0){ws:N}(hw:bd m ws [i])(hI:iW d (λb=>e b+kC [i] b))(T:∀b,0<=e b)(aD:d.length<=2000000000):
 bJ dN 183 [E.v,ws.v] m λax y=>∃z al,ax=al.v/\gF s z y al (pd (jx d [i]))/\HC g m z y:=by
 apply EN
 refine(oJ hw bO).bZ bO λt M o1 i1 h1=>⟨t,rfl,?_⟩
 have an:t≠.nil:=λe=>by subst e;have:=i1.aS;simp at this
 have H:m.size<=t.bq/\t.bq<M.size:=by
  rcases o1.bq with e|e
  .exact absurd e an
  .rcases o1.lt with A|A
   .exact absurd A an
   .exact⟨e,A⟩
 have c1:HC g m (p7 g t.bq 6) M:=dZ.p7 h1 hn H.1 H.2 6
 have a1:iJ (p7 g t.bq 6) M bE 1 6 t ([i].map Ce.i):=iJ.jM o1 λ_=>iP
 have ar:gF s (p7 g t.bq 6) M E d:=hh.gX (dZ.p7 (p:=λ_=>False) h1 hn H.1 H.2 6) id id
 have aA:=Sv λc a=>(hI.iu c a).fl
 have aB:=hh.aS
 refine Tn (γ:=ah×ab) (λh F y=>∃z,gF s z y E h.1/\iJ z y bE 1 6 F (h.2.reverse.map Ce.i)/\HC g m z y/\iW h.1 (λb=>e b+kC h.2 b)/\jx h.1 h.2=jx d [i]/\h.1.length=d.length/\h.2.length+Gl h.1<=1+Gl d) (λh=>DL h.1+h.2.length) (d,[i])
  ⟨_,ar,a1,c1,hI,rfl,rfl,bO⟩ ?_
 rintro⟨a,st⟩ F m2 ay μ ⟨q,B,a2,h,u,v,K,ae⟩ aa
 simp only[]at B a2 u v K ae
 have ao:F.len=st.length:=by have:=a2.aS;simp at this;omega
 refine dit (λh3=>?_) λh3=>?_
 .cases st with
  |nil=>simp at ao;omega
  |cons x r=>
   simp only[Vb]at a2
   let⟨p1,p2,p3⟩:=a2.pop
   simp only[dE,qe]at ao p1 p2 p3 ae
   have e1:eR ((F.len:Int) -1)=(r.length:Int):=by rw[iC];omega
   have az:=a2.le
   rw[e1]
   have A:Int.toNat (0:Int)=0:=rfl
   have e3:Int.toNat (r.length:Int)=r.length:=V
   rw[A,e3]
   refine⟨V,V,x,p2,V,V,V,(jd).bZ λb O hb j=>⟨b,rfl,λaq=>?_,λap=>?_⟩⟩
   .have Y:=hb.1 aq
    have D:=u.TU T Y
    let⟨n,am⟩:=dH D
    have ai:=bA n
    have av:ix x=(x -1000).toNat:=rfl
    have aC:=(u.iu _ (aZ n)).hi
    have e4:eR (x -1000)=x -1000:=iC
    rw[e4,<-av]
    have I:HC q m2 q O:=dZ.fV j h.bI
    have W:gF s q O E a:=B.gX (dZ.fV (p:=λ_=>False) j h.bI) id id
    have a3:=p3.gX (dZ.fV (p:=λ_=>False) j h.bI) id
    obtain⟨f0,g0,_,_,_,_⟩:=W.dz n
    refine⟨V,V,_,g0,V,V,W.wr (o:=0) ai cH,?_⟩
    have e5:eR ((bt a x).ct -1)=(bt a x).ct -1:=iC
    rw[e5]
    intro m4
    let⟨X,c4⟩:=W.xG I.bI n ((bt a x).ct -1)
    have a4:=a3.gX c4 cH
    have P:HC g m q m4:=(h.O I).O (c4.aO λk C=>bu C)
    have S:=lY (d:=kN) n
    simp only[ba am,kN]at S
    simp at S
    have aw:(a.set (ix x) {bt a x with ct:=(bt a x).ct -1})[ix x]? =some {bt a x with ct:=(bt a x).ct -1}:=k8 n
    obtain⟨f1,k0,_,k2,kf,kr⟩:=X.dz aw
    refine⟨V,V,_,k0,λQ=>?_,λQ=>?_⟩
    .simp only[bP]at Q
     have ak:(bt a x).ct=1:=V
     have U:=kf.aS
     simp only[]at U kf kr
     have J:=DV kN n
     simp only[kN,kD]at J
     refine⟨V,V,f1,k2,iJ.fy (f:=[.i 0]) (new:=(bt a x).bU.map Ce.i) a4 P.bI (by simp[U]) kf.Eu ?_ λac aE m5 q1 q2=>?_⟩
     .have:(F.cut 0 r.length 1).len=r.length:=by have:=a4.aS;simp at this;omega
      rw[this,U];omega
     have au:=X.gX q2 cH cH
     have G:HC g m ac m5:=P.O (q2.aO λk C=>bG (bG C))
     intro Z
     have R:=px Z
     have af:=au.gX (dZ.fV (p:=λ_=>False) R G.bI) id id
     have a6:=q1.gX (dZ.fV (p:=λ_=>False) R G.bI) id
     have ad:HC g m ac Z:=G.O (dZ.fV R G.bI)
     clear_value Z
     have aj:ix x<(a.set (ix x) {bt a x with ct:=(bt a x).ct -1}).length:=sp ai
     refine⟨V,V,af.wr (o:=0) aj cH,?_⟩
     intro m7
     let⟨ag,c7⟩:=af.pI ad.bI aj 0 0 (f:=.mk m5.size 0 0 0) (l:=[]) ⟨rfl,bO,bO,bO⟩ (λL=>absurd rfl L)
     rw[Vd]at ag
     refine aa (a.set (ix x) kN,(bt a x).bU.reverse++r) _ _ ⟨ac,ag,?_,ad.O (c7.aO λk C=>bu C),u.WT T D ak,?_,sp K,?_⟩ ?_
     .have:=a6.gX c7 cH
      simpa using this
     .rw[<-uC D ak];exact v
     .simp only[dj,qe]
      have C:Gl (a.set (ix x) kN)+(bt a x).bU.length=Gl a:=by simpa[kN]using J
      omega
     .simp only[dj,qe,dE]
      have C:DL (a.set (ix x) kN)+((bt a x).ct.toNat+(bt a x).bU.length)=DL a:=by simpa[kN]using S
      omega
    .simp only[a8]at Q
     have L:(bt a x).ct≠1:=V
     have C:=lY (d:={bt a x with ct:=(bt a x).ct -1}) n
     simp only[ba am]at C
     rw[ba V]at C
     have J:=DV {bt a x with ct:=(bt a x).ct -1} n
     refine aa (iG a x,r) _ _ ⟨q,X,a4,P,u.TV T D L,?_,by simpa[iG]using K,?_⟩ ?_
     .rw[<-sB D L];exact v
     .simp only[iG];simp only[]at J;omega
     .simp only[iG,dE];omega
   .have Y:=fb hb ap
    have I:HC q m2 q O:=dZ.fV j h.bI
    refine aa (a,r) _ _ ⟨q,B.gX (dZ.fV (p:=λ_=>False) j h.bI) id id,p3.gX (dZ.fV (p:=λ_=>False) j h.bI) id,h.O I,u.WR V,?_,K,by simp only[];omega⟩ bO
    rw[<-sC (w:=x) (λn=>Y n.1)];exact v
 .have n:st=[]:=cr.1 V
  subst n
  rw[uB]at v
  subst v
  refine(BY (B.kG V)).aO ?_
  rintro _ O ⟨rfl,j⟩
  refine⟨_,rfl,q,_,rfl,?_,h.O (dZ.fV j h.bI)⟩
  exact(B.gX (dZ.fV (p:=λ_=>False) j h.bI) id id).rc (xU _ _)
end
section
variable{i:Int}
@[grind cases] structure ST (m0:E) (ro:ag) (m:E) (mb e:Nat) (bx:ae) (cC hp fr:N) (lo:ab) (lh:ah) (fs:ak) (f:bS) (r o h:N) (css:List ae):Prop where
 eH:zP m0 ro m mb e bx cC hp fr lo lh (fs++[f])
 jz:rD ro m fr fs f r o h css
section
variable{l:E}{a w:ag}{m v:E}{j e:Nat}{n:ae}{cC g c:N}{s:ab}{o:ah}{k:ak}{f:bS}{r q h:N}{t:List ae}
def ST.ext(S:ST l a m j e n cC g c s o k f r q h t)(b:J m v):ST l a v j e n cC g c s o k f r q h t/\To a m a v:=
 ⟨⟨(S.eH.ext b).1,S.jz.ext S.eH.bI b⟩,(S.eH.ext b).2⟩
def ST.IE(S:ST l a m j e n cC g c s o k f r q h t){i:Int}(d:0<=i)(p:i<f.aT.length)(v:Int):ST l a (aV m r.bq (r.off+i.toNat*1) [.i v]) j e n cC g c s o k {f with aT:=gT f.aT i v} r q h t/\To a m a (aV m r.bq (r.off+i.toNat*1) [.i v]):=by
 let⟨b,u⟩:=S.jz.IE S.eH.bI d p v;let⟨w,x⟩:=S.eH.mw u b.qd;exact⟨⟨w,b⟩,x⟩
def ST.tX(S:ST l a m j e n cC g c s o k f r q h t){i:Int}(d:0<=i)(p:i<f.bF.length)(v:Int):ST l a (aV m q.bq (q.off+i.toNat*1) [.i v]) j e n cC g c s o k {f with bF:=gT f.bF i v} r q h t/\To a m a (aV m q.bq (q.off+i.toNat*1) [.i v]):=by
 let⟨b,u⟩:=S.jz.tX S.eH.bI d p v;let⟨w,x⟩:=S.eH.mw u b.qd;exact⟨⟨w,b⟩,x⟩
def ST.Gc(S:ST l a m j e n cC g c s o k f r q h t){i:Int}(d:0<=i)(p:i<f.cQ.length)(v:Int):ST l a (aV m h.bq (h.off+i.toNat*1) [.i v]) j e n cC g c s o k {f with cQ:=gT f.cQ i v} r q h t/\To a m a (aV m h.bq (h.off+i.toNat*1) [.i v]):=by
 let⟨b,u⟩:=S.jz.Gc S.eH.bI d p v;let⟨w,x⟩:=S.eH.mw u b.qd;exact⟨⟨w,b⟩,x⟩
def ST.RP(S:ST l a m j e n cC g c s o k f r q h t)(v:Int):ST l a (aV m c.bq (c.off+k.length*6+1) [.i v]) j e n cC g c s o k {f with pc:=v} r q h t/\To a m a (aV m c.bq (c.off+k.length*6+1) [.i v]):=by
 let⟨b,d⟩:=S.jz.RP S.eH.bI v;let⟨i,p⟩:=S.eH.mw d b.qd;exact⟨⟨i,b⟩,p⟩
def ST.lL(S:ST l a m j e n cC g c s o k f r q h t)(i:Nat)(b:ae):ST l a (aV m j i b) j e (jh n i b) cC g c s o k f r q h t/\To a m a (aV m j i b):=by
 let⟨u,v⟩:=S.eH.lL i b;exact⟨⟨u,S.jz.gX (dZ.aV (p:=λd=>d=1) S.eH.bI S.eH.Yp i b) λd w=>V⟩,v⟩
def ST.jK(S:ST l a m j e n cC g c s o k f r q h t)(b:HC a m w v){d:N}{i:ah}(x:gF l.size w v d i):ST l w v j e n cC d c s i k f r q h t/\To a m w v:=by
 let⟨p,u⟩:=S.eH.jK b x;exact⟨⟨p,S.jz.gX b λz y=>V⟩,u⟩
def ST.P6(S:ST l a m j e n cC g c s o k f r q h t)(b:dZ (λd=>d=2) a m w v){p:N}{i:ab}(y:iJ w v bE 1 2 p (i.map Ce.i)):ST l w v j e n p g c i o k f r q h t/\To a m w v:=by
 let⟨u,x⟩:=S.eH.P6 b y;exact⟨⟨u,S.jz.gX b λd z=>V⟩,x⟩
end
def dZ.Wg{a d:ag}{m c:E}(h:To a m d c){b:Nat}(f:b<m.size)(e:a b=0):gL [b] m c:=by grind [dZ.fq]
abbrev SB(d u:N)(b:St)(cC g c:N):ae:=[.s d,.s u,.i b.dT,.i b.je,.i b.df,.i b.dG,.s cC,.s g,.s c]
def CJ(l:E)(a:ag)(m:E)(j:Nat)(d u:N)(b:St)(e:E):Prop:=
 ∃f cC g c,zP l f e j dB (SB d u b cC g c) cC g c b.cC b.aQ b.bn/\To a m f e
def CJ.from{l:E}{a i:ag}{m f e:E}{j:Nat}{d u:N}{b:St}(h:CJ l i f j d u b e)(o:To a m i f):CJ l a m j d u b e:=
 let⟨p,cC,g,c,k,n⟩:=h
 ⟨p,cC,g,c,k,o.O n⟩
variable{l:E}{a:ag}{m:E}{j:Nat}{d u cC g c:N}{b:St}{k:ak}{f:bS}{r q h:N}{t:List ae}
def mT(S:ST l a m j dB (SB d u b cC g c) cC g c b.cC b.aQ k f r q h t)(s:k.length<=100000)(v:Int):
 bJ dN 182 [vp j 0,vi v] m λw i=>ST l a i j dB (SB d u b cC g c) cC g c b.cC b.aQ k {f with pc:=v} r q h t/\To a m a i:=by
 apply td (j,0)
 have e:aR m j 8=some c.v:=S.eH.bT.dz 8
 have p:=S.jz.DT
 have n:eR ((c.len:Int) -1)=(k.length:Int):=by rw[iC];omega
 have o:Int.toNat (k.length:Int)=k.length:=V
 refine⟨c,e,c,e,?_⟩
 rw[n,o]
 exact⟨V,V,S.jz.aaX,S.RP v⟩
def Fm(S:ST l a m j dB (SB d u b cC g c) cC g c b.cC b.aQ k f r q h t)(N:k.length<=100000)(e:0<=i)(x:i<f.aT.length)(y:i<f.bF.length)(w:Int)(R:0<=f.pc/\f.pc<=100000):
 bJ dN 175 [vp j 0,vi i,vi w] m λ_ A=>ST l a A j dB (SB d u b cC g c) cC g c b.cC b.aQ k (bS.cB {f with pc:=f.pc+1} i w 0) r q h t/\To a m a A:=by
 apply yA (j,0)
 simp -zeta only[dU]
 have z:aR m j 8=some c.v:=S.eH.bT.dz 8
 have P:=S.jz.DT
 have G:eR ((c.len:Int) -1)=(k.length:Int):=by rw[iC];omega
 have H:Int.toNat (k.length:Int)=k.length:=V
 let⟨J,g1,g2,K,L,M⟩:=S.jz.kV
 have T:r.len=f.aT.length:=by have:=S.jz.aT.aS;simp at this;omega
 have Q:q.len=f.bF.length:=by have:=S.jz.bF.aS;simp at this;omega
 refine⟨c,z,c,z,?_⟩
 rw[G,H]
 refine⟨V,V,_,J,_,g1,_,g2,r,K,q,L,h,M,?_⟩
 intro U n
 obtain⟨O,X⟩:=pv n
 have o:a m.size=0:=S.eH.bI _ bW
 let⟨s,t2⟩:=S.ext O
 clear_value n
 refine⟨e,V,s.jz.aT.Tp e x,?_⟩
 intro p
 let⟨v,t3⟩:=s.IE e x w
 have Y:p.size=n.size:=bD _ _ _ _
 refine⟨t3.Wg (show m.size<n.size by omega) o,e,V,v.jz.bF.Tp e y,?_⟩
 intro B
 let⟨E,C⟩:=v.tX e (sp y) 0
 have Z:B.size=p.size:=bD _ _ _ _
 have I:eR (f.pc+1)=f.pc+1:=iC
 rw[I]
 refine⟨C.Wg (show m.size<p.size by omega) o,(mT E N (f.pc+1)).aO ?_⟩
 rintro _ W ⟨F,D⟩
 exact⟨D.Wg (show m.size<B.size by omega) o,F,((t2.O t3).O C).O D⟩
def xQ(S:ST l a m j dB (SB d u b cC g c) cC g c b.cC b.aQ k f r q h t)(ab:k.length<=100000)(e:0<=i)(C:i<f.aT.length)(T:i<f.bF.length)(w:Int):
 bJ dN 185 [vp j 0,vi i,vi w] m λ_ F=>ST l a F j dB (SB d u b cC g c) cC g c b.cC b.aQ k (f.cB i w (gE w)) r q h t/\To a m a F:=by
 apply yz (j,0)
 simp -zeta only[dU]
 have E:aR m j 8=some c.v:=S.eH.bT.dz 8
 have aa:=S.jz.DT
 have L:eR ((c.len:Int) -1)=(k.length:Int):=by grind [dt]
 have M:Int.toNat (k.length:Int)=k.length:=V
 let⟨O,g1,g2,P,Q,R⟩:=S.jz.kV
 have ad:r.len=f.aT.length:=by have:=S.jz.aT.aS;simp at this;omega
 have ac:q.len=f.bF.length:=by have:=S.jz.bF.aS;simp at this;omega
 refine⟨c,E,c,E,?_⟩
 rw[L,M]
 refine⟨V,V,_,O,_,g1,_,g2,r,P,q,Q,h,R,?_⟩
 intro m1 n
 have U:J m n:=by grind [J.cZ,J.cw,J.aV]
 have s2:n.size=m.size+1:=by grind [bD]
 have o:a m.size=0:=S.eH.bI _ bW
 let⟨z,t2⟩:=S.ext U
 clear_value n
 refine⟨e,V,z.jz.aT.Tp e C,?_⟩
 intro v
 let⟨A,t3⟩:=z.IE e C w
 have s3:v.size=n.size:=bD _ _ _ _
 refine⟨t3.Wg (show m.size<n.size by omega) o,e,V,A.jz.bF.Tp e T,?_⟩
 intro G
 let⟨I,x⟩:=A.tX e cG 0
 have s4:G.size=v.size:=bD _ _ _ _
 refine⟨x.Wg (show m.size<v.size by omega) o,(jd).aO ?_⟩
 rintro _ W ⟨K,rfl,X,D⟩
 let⟨p,y⟩:=I.ext D
 have s5:=D.aP
 refine⟨y.Wg (show m.size<G.size by omega) o,K,rfl,λZ=>?_,λY=>?_⟩
 .refine⟨e,V,p.jz.bF.Tp e cG,?_⟩
  intro m6
  let⟨B,H⟩:=p.tX e cG 1
  refine⟨H.Wg (show m.size<W.size by omega) o,?_,(((t2.O t3).O x).O y).O H⟩
  have N:gT (gT f.bF i 0) i 1=gT f.bF i 1:=by simp[gT,Vd]
  have s:gE w=1:=by grind [gE]
  simp only[N]at B
  rw[s];exact B
 .refine⟨?_,((t2.O t3).O x).O y⟩
  have s:gE w=0:=by grind [gE]
  rw[s];exact p
def An:∀(a:ab)(g:ah),(kK g a).length=g.length
 |[],g=>rfl
 |w::a,g=>by rw[kK,An a];simp[pX]
def IA:∀(a:ab)(g:ah)(w:Int),kK g (a++[w])=pX (kK g a) w
 |[],g,w=>rfl
 |v::a,g,w=>by rw[eT,kK,IA a,kK]
def Eo:∀(a:ab)(g:ah)(n:Int),(∀c∈g,-10<=c.ct/\c.ct<=n)->∀c∈kK g a,-10<=c.ct/\c.ct<=n+a.length
 |[],g,n,h,c,b=>by have:=h c b;simp;omega
 |w::a,g,n,h,c,b=>by
  have:=Eo a (pX g w) (n+1) (λd hd=>by
   rcases rQ hd with rfl|⟨i,_,f⟩
   .simp only[bt];cases e:g[ix w]? with
    |none=>
     unfold pX at hd;rw[JB (List.getElem?_eq_none_iff.1 e)]at hd;have:=h _ hd;simp only[bt,e]at this⊢;omega
    |some x=>have:=h x (aZ e);simp only[uv];omega
   .have:=h d (aZ f);omega) c b
  simp only[dE];omega
def HP(L:zP l a m j dB (SB d u b cC g c) cC g c b.cC b.aQ k){t:N}{e:ab}(v:bd m t e)(P:e≠[]->a t.bq=0)(K:∀w∈e,1000<=w/\ix w<b.aQ.length)(H:∀h∈b.aQ,-10<=h.ct/\h.ct<=999999)(Z:e.length<=1000000)(W:b.aQ.length<=2000000000):
 bJ dN 181 [vp j 0,t.v] m λ_ r=>gF l.size a r g (kK b.aQ e)/\dZ (λf=>f=3) a m a r:=by
 apply zI (j,0)
 have aa:=v.aS
 have I:aR m j 7=some g.v:=L.bT.dz 7
 refine ik (n:=e.length) V (λf r=>gF l.size a r g (kK b.aQ (e.take f))/\dZ (λf=>f=3) a m a r) ⟨L.aQ,dZ.cZ _ L.bI⟩ ?_
 rintro f A S μ X ⟨i,p⟩ R
 refine dit (λF=>?_) λF=>?_
 .let⟨x,q⟩:=dY e f
  let⟨ac,z⟩:=K x (aZ q)
  have y:e≠[]:=λB=>by rw[B]at q;simp at q
  have Q:bd A t e:=jV v λ_=>p.fL _ (lG v y) (by rw[P y];decide)
  have w:aR A j 7=some g.v:=by rw[bB (p.fL _ L.bT.lt (by rw[L.Yp];decide))];exact I
  have O:=i.aS
  rw[An]at O
  let⟨h,s⟩:=dY (kK b.aQ (e.take f)) (ix x) (by rw[An];exact z)
  obtain⟨T,E,_⟩:=i.dz s
  have M:ix x=(x -1000).toNat:=rfl
  have C:eR (x -1000)=x -1000:=iC
  have U:=Eo (e.take f) b.aQ 999999 H h (aZ s)
  have Y:((e.take f).length:Int)<=1000000:=fj
  have D:eR (h.ct+1)=h.ct+1:=iC
  refine⟨V,V,x,by simpa using Q.D q,g,w,g,w,?_⟩
  rw[C,<-M]
  refine⟨V,V,h.ct,E,V,V,i.wr (o:=0) (by rw[An];exact z) cH,?_⟩
  rw[D]
  let⟨J,G⟩:=i.xG p.bI s (h.ct+1)
  refine R V _ ⟨?_,p.O G⟩
  rw[bX q,IA]
  have:bt (kK b.aQ (e.take f)) x=h:=by simp[bt,s]
  unfold pX
  rw[this];exact J
 .rw[eW V]at i
  exact⟨i,p⟩
def Ft(L:zP l a m j dB (SB d u b cC g c) cC g c b.cC b.aQ k){w:Int}(z:iH b.aQ w){h:Nat->Int}(p:iW b.aQ h)(M:b.aQ.length<=2000000000):
 bJ dN 216 [vp j 0,vi w] m λD r=>∃f:Bool,D=vb f/\(f=true<->(bt b.aQ w).ct=1)/\dZ (λx=>x=3) a m a r/\(f=true->gF l.size a r g b.aQ)/\(f=false->gF l.size a r g (kK (iG b.aQ w) (nU (bt b.aQ w).bU))):=by
 apply yB (j,0)
 let⟨e,ac⟩:=dH z
 have O:=bA e
 have aa:=L.aQ.aS
 have N:ix w=(w -1000).toNat:=rfl
 have Z:=z.1
 have G:eR (w -1000)=w -1000:=iC
 have q:aR m j 7=some g.v:=L.bT.dz 7
 have ab:=(p.iu _ (aZ e)).hi
 have H:eR ((bt b.aQ w).ct -1)=(bt b.aQ w).ct -1:=iC
 let⟨T,v,g1,g2,U,W⟩:=L.aQ.dz e
 rw[G,<-N]
 refine⟨g,q,V,V,_,v,λn=>⟨true,rfl,sp n,dZ.cZ _ L.bI,λ_=>L.aQ,sx⟩,λn=>?_⟩
 simp only[a8]at n
 refine⟨g,q,g,q,V,V,_,v,V,V,L.aQ.wr (o:=0) O cH,?_⟩
 rw[H]
 intro m1
 let⟨y,i⟩:=L.aQ.xG L.bI e ((bt b.aQ w).ct -1)
 let⟨I,k0,k1,S,kf,kr⟩:=y.dz (k8 e)
 let⟨t,t1⟩:=L.jK (i.aO λx A=>bu A) y
 have Y:=(p.iu _ (aZ e)).fl
 refine⟨g,t.bT.dz 7,V,V,I,S,?_⟩
 refine(sL kf (by simp only[];omega)).bZ (by have:=rS (bt b.aQ w).bU;simp only[];omega) λC m2 o2 B x=>⟨C,rfl,?_⟩
 let⟨E,t2⟩:=t.ext x
 have Q:nU (bt b.aQ w).bU≠[]->a C.bq=0:=λP=>by
  rcases o2.bq with h|h
  .subst h;have:=B.aS;simp at this;exact absurd (cr.1 this.symm) P
  .exact i.bI _ h
 have:=rS (bt b.aQ w).bU
 refine(HP (b:={b with aQ:=iG b.aQ w}) (k:=k) E B Q (λD R=>?_) (λF J=>?_) (by simp only[];omega) (by simpa[iG]using M)).aO ?_
 .let⟨K,A⟩:=nN.1 R
  exact⟨A,by simpa[iG]using bA (dH (p.pQ (aZ e) K A)).1⟩
 .rcases rQ J with rfl|⟨f,_,A⟩
  .simp only[];omega
  .have:=p.iu F (aZ A);have K:=this.lo;have X:=this.hi;omega
 .rintro _ X ⟨K,A⟩
  exact⟨false,rfl,sp n,(i.O (dZ.fV x i.bI)).O A,sx,λ_=>K⟩
end
section
variable{H:ag}{A:E}{e:Nat}{G:ae}{x:Instr}{a j:N}{v:Int}
def CF(q:ag)(g:E)(a:ad):Prop:=∀b∈a,b<g.size/\q b=0
def CF.to{p:Nat->Prop}{q:ag}{g:E}{c:ad}(h:CF q g c)(t:dZ p q g H A):CF H A c:=λb a=>⟨cp (h b a).1 t.aP,by rw[t.j8 b (h b a).1];exact(h b a).2⟩
theorem dZ.fR{q:ag}{g:E}(t:To q g H A){a:ad}(h:CF q g a):gL a g A:=t.fq h
def CF.pT{q:ag}{g:E}{a:ad}(h:CF q g a){b:Nat}(c:b∈a):b<g.size/\q b=0:=h b c
def CF.MG{q:ag}{g a c:E}(h:∀b,g.size<=b->q b=0)(d:a.size=g.size+1)(e:c.size=g.size+2):CF q c [a.size,g.size]:=λb f=>by
 grind
noncomputable def rm (c:St) (y:ak) (b:bS) (x:Instr) (t:Int):St:=
 open Classical in
 if x.cY≠0/\D b.cQ (x.cY -1)≠0 then
  {c with aQ:=c.aQ.set (ix (D b.cQ (x.cY -1))) ⟨1,t,dO b x.aN⟩,bn:=y++[bS.cB {b with pc:=b.pc+1,cQ:=gT b.cQ (x.cY -1) 0} x.br (D b.cQ (x.cY -1)) 1]}
 else{c with aQ:=jB c.aQ (fD c.aQ) ⟨1,t,dO b x.aN⟩,bn:=y++[bS.cB {b with pc:=b.pc+1} x.br (1000+fD c.aQ) 1]}
variable{C:E}{q:ag}{g:E}{B:Nat}{d p cC t z:N}{c:St}{y:ak}{b:bS}{r u h:N}{F:List ae}
def ST.Es{c:ab}{a:ah}(S:ST C q g B e G cC t z c a y b r u h F)(d:b.aT.length<=1000000):bd g r b.aT:=S.jz.aT.nL V
def ST.Nf{c:ab}{a:ah}(S:ST C q g B e G cC t z c a y b r u h F)(d:b.bF.length<=1000000):bd g u b.bF:=S.jz.bF.nL V
def ST.VU{c:ab}{a:ah}(S:ST C q g B e G cC t z c a y b r u h F)(d:b.cQ.length<=1000000):bd g h b.cQ:=S.jz.cQ.nL V
def yT(S:ST C q g B dB (SB d p c cC t z) cC t z c.cC c.aQ y b r u h F)(ha:bd C a x.aN)(af:∀e∈x.aN,0<=e/\e<b.aT.length)(ao:x.aN.length<=4)(l:Int)
 (au:b.aT.length=b.bF.length/\b.cQ.length=b.bF.length/\b.bF.length<=2000)(ag:0<=x.br/\x.br<b.bF.length)(ar:0<=x.cY/\x.cY<=b.cQ.length)(av:0<=b.pc/\b.pc<=100000)(ab:y.length<=100000)(ap:c.aQ.length<=1000000000)
 (ai:∀w∈b.cQ,w≠0->1000<=w/\ix w<c.aQ.length):
 bJ dN 177 [vp B 0,fv b r u h,xv x a j,vi l] g λ_ A=>CJ C q g B d p (rm c y b x l) A:=by
 apply vU (B,0)
 simp -zeta only[dU]
 intro L G
 have al:J g G:=((J.cZ g).cw _).cw _
 have s1:=pz L
 have s2:G.size=g.size+2:=by simp[G,s1]
 have T:=CF.MG S.eH.bI s1 s2
 let⟨I,t2⟩:=S.ext al
 clear_value G
 have aq:h.len=b.cQ.length:=by have:=S.jz.cQ.aS;simp at this;omega
 have E:∀{q g b},ST C q g B dB (SB d p c cC t z) cC t z c.cC c.aQ y b r u h F->aR g B 7=some t.v:=λS=>S.eH.bT.dz 7
 refine⟨t,E I,(Ky (I.eH.aQ.kG V)).aO ?_⟩
 rintro _ M ⟨rfl,ac⟩
 let⟨w,t3⟩:=I.ext ac
 have H:=T.to t3
 refine⟨t3.fR T,_,rfl,λaa A=>∃(e:Nat)(k:bS),aa=e/\ST C q A B dB (SB d p c cC t z) cC t z c.cC c.aQ y k r u h F/\To q g q A/\CF q A [L.size,g.size]/\e<=c.aQ.length/\
  k.aT=b.aT/\k.bF=b.bF/\k.pc=b.pc/\rm c y b x l={c with aQ:=jB c.aQ e ⟨1,l,dO b x.aN⟩,bn:=y++[bS.cB {k with pc:=b.pc+1} x.br (1000+e) 1]},?_,?_⟩
 .have none:¬(x.cY≠0/\D b.cQ (x.cY -1)≠0)->∃(e:Nat)(k:bS),((fD c.aQ:Nat):Int)=e/\ST C q M B dB (SB d p c cC t z) cC t z c.cC c.aQ y k r u h F/\To q g q M/\CF q M [L.size,g.size]/\e<=c.aQ.length/\
   k.aT=b.aT/\k.bF=b.bF/\k.pc=b.pc/\rm c y b x l={c with aQ:=jB c.aQ e ⟨1,l,dO b x.aN⟩,bn:=y++[bS.cB {k with pc:=b.pc+1} x.br (1000+e) 1]}:=λU=>
   ⟨_,b,rfl,w,t2.O t3,H,sY _,rfl,rfl,rfl,by rw[rm,aU U]⟩
  refine⟨λK=>?_,λK=>none λP=>by simp at K;omega⟩
  simp at K
  have Q:eR (x.cY -1)=x.cY -1:=iC
  rw[Q]
  have m:0<=x.cY -1/\x.cY -1<b.cQ.length:=V
  have O:=(w.VU V).um m.1 m.2
  refine⟨V,V,_,O,λo=>?_,λo=>none λP=>by simp at o;exact P.2 o⟩
  simp at o
  let⟨W,Y⟩:=ai _ (gS m.1 m.2) o
  refine⟨V,V,_,O,V,V,w.jz.cQ.Tp m.1 m.2,?_⟩
  intro N
  let⟨n,v⟩:=w.Gc m.1 m.2 0
  have X:ix (D b.cQ (x.cY -1))=(D b.cQ (x.cY -1) -1000).toNat:=rfl
  have R:eR (D b.cQ (x.cY -1) -1000)=((ix (D b.cQ (x.cY -1)):Nat):Int):=by rw[iC];omega
  refine⟨v.fR H,ix (D b.cQ (x.cY -1)),_,R,n,(t2.O t3).O v,H.to v,V,rfl,rfl,rfl,?_⟩
  rw[rm,ba ⟨V,o⟩,jB,aU V,nC W]
 .rintro aa N ⟨e,k,rfl,n,v,U,ae,o,eo,ep,ec⟩
  have am:J C N:=n.eH.da
  have aj:bd N r b.aT:=o▸n.Es (by rw[o];omega)
  refine⟨t,E n,(vW (f:=b) aj (ha.ext am) af V).aO ?_⟩
  rintro _ m5 ⟨ws,rfl,ow,ad⟩
  let⟨m,O⟩:=n.ext ad
  have W:=U.to O
  have ak:(dO b x.aN).length<=1000000000:=by simp[dO];omega
  have iw:bd m5 ws (dO b x.aN):=bd.jM ow V
  refine⟨O.fR U,ws,rfl,by rw[E m,E n],(Rg m.eH.aQ m.eH.bI ae l iw V ak m.eH.da.aP).aO ?_⟩
  rintro _ m6 ⟨an,K,rfl,ah,c6⟩
  let⟨Z,P⟩:=m.jK c6 ah
  have X:=W.to P
  refine⟨P.fR W,K,rfl,Z.eH.pE (i:=7) bO,?_⟩
  intro m7
  let⟨S7,Q⟩:=Z.lL 7 [.s K]
  have Y:=X.to Q
  have e3:eR (1000+(e:Int))=1000+(e:Int):=iC
  have e4:eR (b.pc+1)=b.pc+1:=iC
  rw[e3,e4]
  refine⟨Q.fR X,(xQ (b:={c with aQ:=jB c.aQ e ⟨1,l,dO b x.aN⟩}) S7 ab ag.1 (by rw[o];omega) (by rw[eo];omega) (1000+e)).aO ?_⟩
  rintro _ m8 ⟨S8,R⟩
  refine⟨R.fR Y,(mT (b:={c with aQ:=jB c.aQ e ⟨1,l,dO b x.aN⟩}) S8 ab (b.pc+1)).aO ?_⟩
  rintro _ m9 ⟨S9,t9⟩
  refine⟨t9.fR (Y.to R),an,cC,K,z,?_,((((v.O O).O P).O Q).O R).O t9⟩
  rw[ec]
  have e5:gE (1000+(e:Int))=1:=by rw[gE,ba V]
  have:=S9.eH
  rw[e5]at this
  exact this
def wC:∀(a bF:ab)(r:Int),eY bF (a++[r])=gT (eY bF a) r (D (eY bF a) r+1)
 |[],bF,r=>rfl
 |q::a,bF,r=>by rw[eT,eY,wC a,eY]
def JJ{l:ab}{i:Int}(h:∀u∈l,0<=u/\u<=v)(c:0<=v):0<=D l i/\D l i<=v:=by
 rcases eJ i.toNat l.length with a|a
 .let⟨y,b⟩:=jk a;rw[OQ b];exact h y (aZ b)
 .grind [D,List.getElem?_eq_none]
def uT:∀(b bF:ab)(v:Int),0<=v->(∀u∈bF,0<=u/\u<=v)->∀u∈eY bF b,0<=u/\u<=v+b.length
 |[],bF,v,d,h,u,c=>by have:=h u c;simp;omega
 |r::b,bF,v,d,h,u,c=>by
  have:=uT b (gT bF r (D bF r+1)) (v+1) V (λq a=>by
   have:=JJ (i:=r) h d;rcases tQ a with a|a
   .omega
   .have:=h q a;omega) u c
  simp only[dE];omega
noncomputable def xD (c:St) (y:ak) (b:bS) (x:Instr):St:=
 open Classical in
 if(bt c.aQ (D b.aT (D x.aN 0))).ct=1/\x.op=17 then
  {c with aQ:=c.aQ.set (ix (D b.aT (D x.aN 0))) ⟨-1,0,eQ (bt c.aQ (D b.aT (D x.aN 0))).bU.length⟩,bn:=y++[{b with bF:=eY b.bF (x.aN.drop 1),pc:=b.pc+1,cQ:=gT b.cQ (D x.aN 0) (D b.aT (D x.aN 0))}]}
 else{c with aQ:=iO c.aQ (D b.aT (D x.aN 0)),bn:=y++[{b with bF:=eY b.bF (x.aN.drop 1),pc:=b.pc+1}]}
theorem sP(v:Nat):ng [.i (0:Int)] v=(eQ v).map Ce.i:=by
 induction v with
 |zero=>rfl
 |succ v a=>
  have:ng [.i (0:Int)] (v+1)=.i 0::ng [.i (0:Int)] v:=by simp[ng,mq]
  rw[this,a];simp[eQ,mq]
def uZ{g:E}(a:0<=v)(c:v<=1000000):bJ dN 153 [vi v] g λb A=>b=N.v (.mk g.size 0 v.toNat v.toNat)/\A=g.push (.cells (de ((eQ v.toNat).map Ce.i)) bE):=by
 apply MA;refine⟨a,dR _,V,V,?_⟩;rw[sP];exact⟨rfl,rfl⟩
def RW{g:E}(v:Nat):jo g (g.push (.cells (de ((eQ v).map Ce.i)) bE)) bE 1 (.mk g.size 0 v v) ((eQ v).map Ce.i):=by grind [jo.bI,J.cZ,lO]
def Mo(S:ST C q g B dB (SB d p c cC t z) cC t z c.cC c.aQ y b r u h F)(ha:bd C a x.aN)(aj:∀E∈x.aN,0<=E/\E<b.aT.length)(ax:1<=x.aN.length/\x.aN.length<=4)
 (aE:b.aT.length=b.bF.length/\b.cQ.length=b.bF.length/\b.bF.length<=2000)(aH:0<=b.pc/\b.pc<=100000)(ag:y.length<=100000)(aA:c.aQ.length<=1000000000)(av:∀Q∈b.bF,0<=Q/\Q<=999999)
 (ai:iH c.aQ (D b.aT (D x.aN 0))){e:Nat->Int}(hI:iW c.aQ e):
 bJ dN 184 [vp B 0,fv b r u h,xv x a j] g λ_ A=>CJ C q g B d p (xD c y b x) A:=by
 apply wQ (B,0)
 simp -zeta only[dU]
 intro m1 m2
 have aw:J g m2:=((J.cZ g).cw _).cw _
 have s1:=pz m1
 have s2:m2.size=g.size+2:=by simp[m2,s1]
 have B2:=CF.MG S.eH.bI s1 s2
 let⟨S2,t2⟩:=S.ext aw
 clear_value m2
 have aJ:r.len=b.aT.length:=by have:=S.jz.aT.aS;simp at this;omega
 have aG:u.len=b.bF.length:=by have:=S.jz.bF.aS;simp at this;omega
 have aB:h.len=b.cQ.length:=by have:=S.jz.cQ.aS;simp at this;omega
 have ay:=ha.aS
 have I:0<=D x.aN 0/\D x.aN 0<b.aT.length:=aj _ (gS V V)
 have ga:∀{A},J C A->∀{v:Nat}{E},x.aN[v]? =some E->aR A a.bq (a.off+Int.toNat (v:Int)*1)=some (vi E):=λhx v E W=>by simpa using(ha.ext hx).D W
 refine⟨V,V,D x.aN 0,(ha.ext S2.eH.da).um V V,I.1,V,D b.aT (D x.aN 0),(S2.Es V).um I.1 I.2,?_⟩
 refine⟨λae A=>∃v:Nat,ae=v/\1<=v/\v<=x.aN.length/\ST C q A B dB (SB d p c cC t z) cC t z c.cC c.aQ y {b with bF:=eY b.bF ((x.aN.take v).drop 1)} r u h F/\To q g q A/\CF q A [m1.size,g.size],λae _=>((x.aN.length:Int) -ae).toNat,⟨1,rfl,V,V,?_,t2,B2⟩,?_⟩
 .have e1:(x.aN.take 1).drop 1=[]:=bO
  rw[e1];exact S2
 rintro ae m3 ⟨v,rfl,aC,aD,K,t3,Y⟩
 have au:∀Q∈eY b.bF ((x.aN.take v).drop 1),0<=Q/\Q<=1000010:=λQ hq=>by
  have:=uT _ b.bF 999999 V av Q hq;have h3:((x.aN.take v).drop 1).length<=4:=fj;omega
 refine dit (λh1=>?_) λh1=>?_
 .let⟨E,W⟩:=dY x.aN v
  have L:=aj E (aZ W)
  have N:E<(eY b.bF ((x.aN.take v).drop 1)).length:=by rw[sW];omega
  have hb:=JJ (i:=E) au V
  refine⟨V,V,E,ga K.eH.da W,V,V,E,ga K.eH.da W,L.1,V,_,(K.Nf (by simp only[sW];omega)).um L.1 N,L.1,V,K.jz.bF.Tp L.1 N,?_⟩
  intro G
  have O:eR (D (eY b.bF ((x.aN.take v).drop 1)) E+1)=D (eY b.bF ((x.aN.take v).drop 1)) E+1:=iC
  let⟨H,M⟩:=K.tX L.1 N (D (eY b.bF ((x.aN.take v).drop 1)) E+1)
  have P:G=aV m3 u.bq (u.off+E.toNat*1) [.i (D (eY b.bF ((x.aN.take v).drop 1)) E+1)]:=by simp only[G,O]
  clear_value G
  subst P
  refine⟨M.fR Y,?_,?_⟩
  .rw[nQ (k:=v) (n:=x.aN.length) V V]
   refine⟨v+1,rfl,V,V,?_,t3.O M,Y.to M⟩
   have e4:(x.aN.take (v+1)).drop 1=(x.aN.take v).drop 1++[E]:=by
    rw[bX W,List.drop_append_of_le_length fj]
   rw[e4,wC]
   exact H
  .rw[nQ (k:=v) (n:=x.aN.length) V V]
   show((x.aN.length:Int) -((v+1:Nat):Int)).toNat<((x.aN.length:Int) -(v:Int)).toNat
   omega
 .have e1:(x.aN.take v).drop 1=x.aN.drop 1:=by rw[eW V]
  rw[e1]at K
  have aK:=nC ai.1
  let⟨af,aI⟩:=dH ai
  have ad:=bA af
  have aF:=K.eH.aQ.aS
  have e4:eR (b.pc+1)=b.pc+1:=iC
  have ar:ix (D b.aT (D x.aN 0))=(D b.aT (D x.aN 0) -1000).toNat:=rfl
  have e5:eR (D b.aT (D x.aN 0) -1000)=D b.aT (D x.aN 0) -1000:=iC
  rw[e4,e5,<-ar]
  generalize hw:D b.aT (D x.aN 0)=w at*
  have gw:∀{q g lh own' held'},ST C q g B dB (SB d p c cC t z) cC t z c.cC lh y {b with bF:=own',cQ:=held'} r u h F->aR g r.bq (r.off+Int.toNat (D x.aN 0)*1)=some (vi w):=λS=>by rw[<-hw];exact(S.Es (by simp only[];omega)).um I.1 I.2
  refine⟨I.1,V,w,gw K,(Ft K.eH ai hI V).aO ?_⟩
  rintro _ G ⟨an,rfl,hb,c4,aq,ap⟩
  refine⟨(c4.aO λv O=>by omega:To q m3 q G).fR Y,an,rfl,λal=>?_,λak=>?_⟩
  .have ac:=hb.1 al
   let⟨H,M⟩:=K.jK (c4.aO λv O=>bu O) (aq al)
   have B4:=Y.to M
   have g7:aR G B 7=some t.v:=H.eH.bT.dz 7
   refine⟨λaa=>?_,λaa=>?_⟩
   .simp at aa
    let⟨f0,k0,k1,k2,kf,kr⟩:=H.eH.aQ.dz af
    have ao:=(hI.iu _ (aZ af)).fl
    have az:=kf.aS
    refine⟨t,g7,t,g7,V,V,f0,k2,(uZ V V).aO ?_⟩
    rintro _ m5 ⟨rfl,rfl⟩
    have e6:Int.toNat (f0.len:Int)=(bt c.aQ w).bU.length:=V
    rw[e6]
    have ab:J G (G.push (.cells (de ((eQ (bt c.aQ w).bU.length).map Ce.i)) bE)):=J.push _ _
    have oz:=RW (g:=G) (bt c.aQ w).bU.length
    let⟨L,N⟩:=H.ext ab
    have Z:=B4.to N
    have am:q G.size=0:=H.eH.bI _ bW
    generalize G.push (.cells (de ((eQ (bt c.aQ w).bU.length).map Ce.i)) bE)=m5 at*
    let⟨ah,c6⟩:=L.eH.aQ.pI L.eH.bI ad (-1) 0 (f:=.mk G.size 0 _ _) (bd.jM oz (by rw[lO];omega)) (XH.of H.eH.aQ (λI=>ab.bC _ (H.eH.aQ.bq I).2) (λ_=>oz) (λ_=>am) H.eH.da.aP)
    refine⟨N.fR B4,_,rfl,ab.db g7,V,V,L.eH.aQ.wr (o:=0) ad cH,?_⟩
    intro m6
    let⟨P,R⟩:=L.jK (c6.aO λv O=>bu O) ah
    have B6:=Z.to R
    refine⟨R.fR Z,I.1,V,w,gw P,I.1,V,P.jz.cQ.Tp I.1 (by simp only[];omega),?_⟩
    intro m7
    let⟨U,T⟩:=P.Gc I.1 (by simp only[];omega) w
    refine⟨T.fR B6,(mT (b:={c with aQ:=c.aQ.set (ix w) ⟨-1,0,eQ (bt c.aQ w).bU.length⟩}) U ag (b.pc+1)).aO ?_⟩
    rintro _ m8 ⟨S8,X⟩
    refine⟨X.fR (B6.to T),q,cC,t,z,?_,(((((t3.O M).O N).O R).O T).O X)⟩
    rw[xD,hw,ba ⟨ac,aa⟩]
    exact S8.eH
   .simp at aa
    refine⟨t,g7,?_⟩
    intro m5
    have ab:=px m5
    let⟨L,N⟩:=H.ext ab
    have Z:=B4.to N
    clear_value m5
    refine⟨V,V,L.eH.aQ.wr (o:=0) ad cH,?_⟩
    intro m6
    let⟨ah,c6⟩:=L.eH.aQ.pI L.eH.bI ad 0 0 (f:=.mk G.size 0 0 0) (l:=[]) ⟨rfl,bO,bO,bO⟩ (λam=>absurd rfl am)
    let⟨P,R⟩:=L.jK (c6.aO λv O=>bu O) ah
    have B6:=Z.to R
    refine⟨R.fR Z,t,P.eH.bT.dz 7,(BY (P.eH.aQ.kG fj)).aO ?_⟩
    rintro _ m7 ⟨rfl,ao⟩
    let⟨U,T⟩:=P.ext ao
    have B7:=B6.to T
    refine⟨T.fR B6,_,rfl,U.eH.pE (i:=7) bO,?_⟩
    intro m8
    obtain⟨am,az⟩:=U.jK (dZ.cZ _ U.eH.bI) (U.eH.aQ.rc (xU _ _))
    obtain⟨S8,X⟩:=am.lL 7 [.s (t.cut 0 (lB (c.aQ.set (ix w) kN) (c.aQ.set (ix w) kN).length) 3)]
    refine⟨X.fR B7,(mT (b:={c with aQ:=pd (c.aQ.set (ix w) kN)}) S8 ag (b.pc+1)).aO ?_⟩
    rintro _ m9 ⟨S9,t9⟩
    refine⟨t9.fR (B7.to X),q,cC,t.cut 0 (lB (c.aQ.set (ix w) kN) (c.aQ.set (ix w) kN).length) 3,z,?_,((((((t3.O M).O N).O R).O T).O X).O t9)⟩
    rw[xD,hw,aU (λhh=>aa hh.2),Go.Proofs.YtbbbdejieenniaaGreat.iO,ba ac]
    exact S9.eH
  .have ac:(bt c.aQ w).ct≠1:=λe=>by have:=hb.2 e;rw[ak]at this;simp at this
   let⟨H,M⟩:=K.jK (c4.aO λv O=>bu O) (ap ak)
   refine(mT (b:={c with aQ:=kK (iG c.aQ w) (nU (bt c.aQ w).bU)}) H ag (b.pc+1)).aO ?_
   rintro _ m5 ⟨L,N⟩
   refine⟨N.fR (Y.to M),q,cC,t,z,?_,(t3.O M).O N⟩
   rw[xD,hw,aU (λhh=>ac hh.1),Go.Proofs.YtbbbdejieenniaaGreat.iO,aU ac]
   exact L.eH
end
end Go.Proofs.YtbbbdejieenniaaGreat
