/- Part of a proof. -/
import Derived.Carry
import Derived.ChangeSame
import Derived.ChangeSlices
import Derived.Deep.Slices
import Derived.OpenShut
import Derived.RowKit
import Derived.WideShapes
import Derived.Test.YtkoifinbblcbiaaGreatTB00
import Derived.Test.YtkoifinbblcbiaaGreatTB01
import Derived.Test.YtkoifinbblcbiaaGreatTB03
import Derived.Test.YtkoifinbblcbiaaGreatTB05
set_option linter.all false
set_option maxHeartbeats 8000000
set_option maxRecDepth 100000
namespace Go.Proofs.YtkoifinbblcbiaaGreat
open Go.Vc
section
variable{p:O}{h:List bO}
section
variable{j:E}{a n:Nat->Nat}{m i:E}{k e sb:Nat}{c:List Ce}{aW b d:O}{g:List Int}{l:List bO}{f:List aU}
def eX.eY(h:eX sb m i)(g:a sb=9)(f:∀c,m.size<=c->a c=0):dz (λk=>k=9) a m a i:=
 ⟨h.size,λ_ _=>rfl,λc d=>f c (bX h.size d),λc d b=>h.same c d λe=>b (e▸g)⟩
def qA.Qc(L:qA j a m k e c aW b d g l f)(p:a sb=9)(h:eX sb m i):qA j a i k e c aW b d g l f:=by
 have n:=h.eY p L.new;have r:=L.cv.size;refine⟨⟨bX r h.size,λo q=>?_⟩,L.jA,n.new,L.box.congr (h.same _ L.box.lt λe=>?_),L.NV,L.aW.eY n be,L.heap.eY n be be,L.av.eY n (λt s e=>V)⟩
 .rw[h.same o V (λe=>by have:=L.jA o q;rw[e,p]at this;omega)];exact L.cv.same o q
 .have:=L.NV;rw[e,p]at this;omega
def qA.Vt(L:qA j a m k e c aW b d g [] f){q:E}(u:J q j)(s:a sb=0)(N:q.size<=sb)(P:sb<m.size):qA q (pu a sb 9) m k e c aW b d g [] f:=by
 have up:∀{p:Nat}{w:O}{e x:Nat}{v:List Ce},iA a m e x p w v->p≠0->iA (pu a sb 9) m e x p w v:=λr C=>
  r.dQ (λ_=>rfl) λB=>ez λe=>C (by rw[<-(r.D B).2,e,s])
 have Q:=u.size;refine⟨u.trans L.cv,λi t=>?_,λi t=>?_,L.box,?_,up L.aW be,?_,?_⟩
 .rw[ez V];exact L.jA i V
 .rw[ez V];exact L.new i t
 .rw[ez (λe=>by have:=L.NV;rw[e,s]at this;omega)];exact L.NV
 .obtain⟨l,n,o,-⟩:=L.heap;have:l=[]:=List.length_eq_zero_iff.1 (by rw[o.len];rfl);subst this;exact⟨[],up n be,gE.nil _ _,Xu.nil⟩
 .let⟨l,h⟩:=L.av;refine⟨l,up h.pB be,h.len,h.size,λD y z n o=>?_⟩;let⟨M,F,A,G,H,I,K⟩:=h.dx D y z n o;exact⟨M,F,A,G,up H V,up I V,up K V⟩
end
structure Tq(m:E)(p fr:O)(fs:List aU)(f:aU)(x:Instr)(r o h pc a j:O):Prop where
 frl:fr.len=fs.length+1
 sm:fs.length<=1000
 g0:af m fr.D (fr.off+fs.length*6)=some (vi f.eg)
 g1:af m fr.D (fr.off+fs.length*6+1)=some (vi f.pc)
 g2:af m fr.D (fr.off+fs.length*6+2)=some (vi f.dst)
 g3:af m fr.D (fr.off+fs.length*6+3)=some (O.v r)
 g4:af m fr.D (fr.off+fs.length*6+4)=some (O.v o)
 g5:af m fr.D (fr.off+fs.length*6+5)=some (O.v h)
 eg:0<=f.eg/\f.eg<p.len
 cX:af m p.D (p.off+f.eg.toNat*5+4)=some (O.v pc)
 Y3:0<=f.pc/\f.pc<pc.len
 i0:af m pc.D (pc.off+f.pc.toNat*6)=some (vi x.op)
 i1:af m pc.D (pc.off+f.pc.toNat*6+1)=some (vi x.dst)
 i2:af m pc.D (pc.off+f.pc.toNat*6+2)=some (vi x.bQ)
 i3:af m pc.D (pc.off+f.pc.toNat*6+3)=some (vi x.bM)
 i4:af m pc.D (pc.off+f.pc.toNat*6+4)=some (O.v a)
 i5:af m pc.D (pc.off+f.pc.toNat*6+5)=some (O.v j)
 aY:ar m h f.aY
 bM:x.op=6->0<=x.bM/\x.bM<=f.aY.length
 kU:f.aY.length<=2000
def Tq.ext{m g:E}{p d:O}{e:List aU}{f:aU}{x:Instr}{r o h i b j:O}(c:Tq m p d e f x r o h i b j)(a:J m g):Tq g p d e f x r o h i b j:=
 ⟨c.frl,c.sm,a.af c.g0,a.af c.g1,a.af c.g2,a.af c.g3,a.af c.g4,a.af c.g5,c.eg,a.af c.cX,c.Y3,a.af c.i0,a.af c.i1,a.af c.i2,a.af c.i3,a.af c.i4,a.af c.i5,c.aY.ext a,c.bM,c.kU⟩
def qA.ZJ{k:E}{D:Nat->Nat}{m:E}{B q:Nat}{n:List Ce}{G aW y i:O}{a:cg}{s:St}(L:qA k D m B q n aW y i s.aW s.heap s.av)(x:eW k G p a)(e:db a s)(A:s.bI=3)(Q:∀g∈s.av,∀w∈g.an,w<=9223372036854775807):
 ∃c f r o h l g j,s.av=c++[f]/\Tq m p i c f (nv a s) r o h l g j/\rm a s=decide ((nv a s).op=6/\(nv a s).bM≠0/\aG f.aY ((nv a s).bM -1)≠0):=by
 let⟨c,f,d⟩:=e.split A
 have t:s.av.getLast?=some f:=by rw[d];simp
 have u:nv a s=dt a f:=by unfold nv;rw[t]
 have H:rm a s=decide ((nv a s).op=6/\(nv a s).bM≠0/\aG f.aY ((nv a s).bM -1)≠0):=by rw[u];unfold rm;rw[t]
 have C:yI a s c f (nv a s):=⟨e,A,d,u.symm,Q⟩
 have F:qA k D m B q n aW y i s.aW s.heap (c++[f]):=by rw[<-d];exact L
 let⟨r,o,h,aa,T⟩:=F.av.fZ
 let⟨I,g1,g2,J,K,M⟩:=T.iF
 let⟨aj,S,U,hP,P,hI⟩:=C.I
 let⟨pa,pl,l,ae,ag,z,k0,k1,k2,k3,k4⟩:=x.cC.aG S
 let⟨g,j,ha,hj,W,X,Y,Z,i4,i5⟩:=z.aG P
 have ah:=x.cC.len
 have af:=z.len
 have v:=C.F
 have ai:=v.eg
 have R:=v.pc
 rw[U]at R
 have b:=L.cv
 have w:=e.depth
 have ab:=e.bC
 have ad:=e.bq
 rw[d]at w
 have ac:=C.Lm
 refine⟨c,f,r,o,h,l,g,j,d,⟨T.vX,by simp at w;omega,I,g1,g2,J,K,M,V,b.af k4,V,b.af W,b.af X,b.af Y,b.af Z,b.af i4,b.af i5,T.aY.nT V,λN=>?_,V⟩,H⟩
 have:=C.lp.2.2.2.2.1 N
 exact⟨this.1,this.2.1⟩
def GQ{m:E}{d:O}(H:yJ m d h)(s:h.length<=1000000000):vm cq 160 [O.v d] m (vi (iz h)):=by
 apply Bc;have p:=H.len;refine dV (σ:=Int) (n:=h.length) V (λk f a=>f=iz (h.take k)/\a=m) ⟨by simp[iz],rfl⟩ ?_;rintro k f u I μ o ⟨rfl,rfl⟩ g
 have r:=Gi (h.take k);have q:=HO (h.take k);have t:(h.take k).length<=h.length:=bJ;refine dit (λi=>?_) λi=>?_
 .let⟨c,b⟩:=cK h k;let⟨j,g1,g2,l⟩:=H.iF k c b;have e:iz (h.take (k+1))=iz (h.take k)+(if 0<c.aQ then 1 else 0):=by rw[bd b,xF];simp[iz]
  refine⟨V,V,c.aQ,by simpa using g1,λa=>?_,λa=>?_⟩
  .simp at a;rw[aP V V];exact g V _ _ ⟨by rw[e,aj a],rfl⟩
  .simp at a;exact g V _ _ ⟨by rw[e,ae V];omega,rfl⟩
 .rw[cJ V];exact⟨rfl,J.aA _⟩
def zf{m:E}{d:O}(H:yJ m d h)(q:h.length<=1000000000)(a:Int):vm cq 161 [O.v d,vi a] m (vi (my a h)):=by
 apply vD;have p:=H.len;refine dV (σ:=Int) (n:=h.length) V (λk e b=>e=my a (h.take k)/\b=m) ⟨by simp[my],rfl⟩ ?_;rintro k e r I μ o ⟨rfl,rfl⟩ i
 refine dit (λg=>?_) λg=>?_
 .let⟨c,b⟩:=cK h k;let⟨j,g1,g2,l⟩:=H.iF k c b;have f:my a (h.take (k+1))=mx (my a (h.take k)) c.aQ:=by rw[bd b,BK];rfl
  exact⟨V,V,c.aQ,by simpa using g1,i V _ _ ⟨by rw[f];rfl,rfl⟩⟩
 .rw[cJ V];exact⟨rfl,J.aA _⟩
def OZ{b:E}{j T:Nat}{u:List Ce}{A:Nat}{e:O}{k:List aU}{f:aU}{x:Instr}{q n h N z I:O}(B:cw b j T u)(b1:u[1]? =some (.s p))(S:u[8]? =some (.s e))(F:Tq b p e k f x q n h N z I):
 aM cq 88 [vp A 0,vp j 0] b λaa Z=>aa=.tuple #[vi x.op,vi (Ji (decide (x.op=6/\x.bM≠0/\aG f.aY (x.bM -1)≠0)))]/\J b Z:=by
 apply vA (A,0) (j,0)
 simp -zeta only[aC,aB]
 have hl:=F.frl
 have hs:=F.sm
 have U:cR ((e.len:Int) -1)=(k.length:Int):=by rw[aP V V];omega
 have W:Int.toNat (k.length:Int)=k.length:=V
 have l:af b j 8=some (O.v e):=by rw[B.bU 8,S];rfl
 have D:af b j 1=some (O.v p):=by rw[B.bU 1,b1];rfl
 refine⟨e,l,e,l,?_⟩
 rw[U,W]
 refine⟨V,V,_,F.g0,_,F.g1,_,F.g2,q,F.g3,n,F.g4,h,F.g5,?_⟩
 intro L
 have d:J b L:=(J.aA b).aH _
 refine⟨d.cr F.g0,d.cr F.g1,d.cr F.g2,d.cr F.g3,d.cr F.g4,d.cr F.g5,d.cr l,d.cr l,?_⟩
 intro g
 have s:J b g:=d.ag (ad _) _ _
 have K:cw g b.size cL [.i f.eg,.i f.pc,.i f.dst,.s q,.s n,.s h]:=cw.ag (m:=L) (o:=0) (r:=[.i f.eg,.i f.pc,.i f.dst,.s q,.s n,.s h]) (cw.push b _ _)
 clear_value g
 have a:=F.ext s
 refine⟨p,s.af D,F.eg.1,F.eg.2,N,a.cX,F.Y3.1,F.Y3.2,_,a.i0,_,a.i1,_,a.i2,_,a.i3,z,a.i4,I,a.i5,?_⟩
 intro m3
 have c:J g m3:=(J.aA g).aH _
 refine⟨c.cr a.i0,c.cr a.i1,c.cr a.i2,c.cr a.i3,c.cr a.i4,c.cr a.i5,c.cr (K.bU 1),c.cr a.cX,c.cr (K.bU 0),c.cr (s.af D),?_⟩
 intro M
 have P:J g M:=c.ag (ad _) _ _
 clear_value M
 have t:=s.trans P
 have R:=a.ext P
 have y:¬(x.op=6/\x.bM≠0/\aG f.aY (x.bM -1)≠0)->vi (0:Int)=vi (Ji (decide (x.op=6/\x.bM≠0/\aG f.aY (x.bM -1)≠0))):=λY=>by rw[JB Y];rfl
 refine⟨λv=>?_,λv=>⟨by rw[<-y (by simp at v;omega)],t⟩⟩
 have G:x.op=6:=by simpa using v
 let⟨q1,q2⟩:=F.bM G
 have ae:=F.kU
 refine⟨λw=>?_,λw=>⟨by rw[<-y (by simp at w;omega)],t⟩⟩
 have ab:0<x.bM:=by simpa using w
 have ac:=F.aY.len
 rw[aP V V]
 let⟨Q,H⟩:=cK f.aY ((x.bM -1).toNat)
 have C:aG f.aY (x.bM -1)=Q:=DQ H
 refine⟨V,V,Q,R.aY.aG H,λi=>?_,λi=>?_⟩
 .simp at i
  rw[decide_eq_true (show x.op=6/\x.bM≠0/\aG f.aY (x.bM -1)≠0 from⟨G,V,by rw[C];exact i⟩)]
  exact⟨rfl,t⟩
 .simp at i
  rw[<-y (λX=>X.2.2 (by rw[C];exact i))]
  exact⟨rfl,t⟩
end
section
variable{f:E}{e g h k:Nat}{c:lO}{d p:O}{s:St}{b:cg}
def Pv(g h:Nat)(M:E)(R:Value->E->Prop):Prop:=
 ∃b:Int,af M g 6=some (vi b)/\
 ∃c:O,af M h 8=some (O.v c)/\
 eC M g 6 1/\
 let a:E:=ag M g 6 [.i (if(c.len:Int)>b then(c.len:Int)else b)]
 ∃f:O,af a h 7=some (O.v f)/\
 ∃i:Int,af a g 7=some (vi i)/\
 aM cq 161 [O.v f,vi i] a λr d=>
 ∃e:Int,r=vi e/\
 eC d g 7 1/\
 let j:E:=ag d g 7 [.i e]
 R (.tuple #[]) j
def P9{M:E}{v:Nat}{aW a b:O}(K:cw f h v (SB d p s aW a b))(n:h≠g)(H:yJ f a s.heap)(x:s.heap≠[]->a.D≠g)(y:s.heap.length<=1000000000)(w:b.len=s.av.length)
 (B:cw M g e (NB c))(q:eX g f M):Pv g h M (Nv e g f {c with depth:=mx c.depth s.av.length,ft:=my c.ft s.heap}):=by
 have l:=K.lt
 refine⟨c.depth,B.bU 6,b,(K.congr (q.same h l n)).bU 8,B.eC (by simp[NB]),?_⟩
 rw[w]
 intro i
 have o2:eX g f i:=q.ag _ _
 have j:cw i g e (NB {c with depth:=mx c.depth s.av.length}):=B.ag (m:=f) (o:=6) (r:=[.i (mx c.depth s.av.length)])
 clear_value i
 have u:=K.congr (o2.same h l n)
 refine⟨a,u.bU 7,c.ft,j.bU 7,(zf (H.dQ λk=>o2.same _ (H.lt k) (x k)) y c.ft).mono ?_⟩
 rintro _ z ⟨rfl,t⟩
 have k:=j.ext t
 refine⟨_,rfl,k.eC (by simp[NB]),?_⟩
 intro A
 exact⟨rfl,k.ag (m:=f) (o:=7) (r:=[.i (my c.ft s.heap)]),(o2.ext t).ag _ _⟩
def O1{T:Nat}{aW q I:O}(K:cw f h T (SB d p s aW q I))(v:h≠g)(H:yJ f q s.heap)(L:s.heap≠[]->q.D≠g)(N:s.heap.length<=1000000000)(U:I.len=s.av.length)
 (B:cw f g e (NB c))(b:Int){a:Int}(ha:0<=a/\a<=1)(Q:Nat)(hn:Q<=1000000)(W:Py Q c):
 aM cq 89 [vp g 0,vp h 0,vi b,vi a] f (Nv e g f (Eg c b a s)):=by
 apply vB (g,0) (h,0)
 let⟨Y,Z,h3,h4,h5⟩:=W
 have J:=K.lt
 refine⟨c.ap,B.bU 0,B.eC (by simp[NB]),?_⟩
 rw[aP V V]
 intro w
 have o1:eX g f w:=(eX.aA g f).ag _ _
 have i:cw w g e (NB {c with ap:=c.ap+1}):=B.ag (m:=f) (o:=0) (r:=[.i (c.ap+1)])
 clear_value w
 have G:=K.congr (o1.same h J v)
 have tail:∀{M:E}{l:lO},cw M g e (NB l)->eX g f M->Pv g h M (Nv e g f {l with depth:=mx l.depth s.av.length,ft:=my l.ft s.heap}):=λB X=>P9 K v H L N U B X
 refine⟨s.bI,G.bU 2,λz=>?_,λz=>⟨s.bI,G.bU 2,λA=>?_,λA=>?_⟩⟩
 .unfold Eg;simp only[];rw[aj (Or.inl (by simpa using z))];exact⟨rfl,i,o1⟩
 .unfold Eg;simp only[];rw[aj (Or.inr (by simpa using A))];exact⟨rfl,i,o1⟩
 have n:¬(s.bI=1\/s.bI=2):=by simp at z A;omega
 refine⟨λC=>?_,λC=>?_⟩
 .have k:b=6\/b=10:=by simpa using C
  have en:Eg c b a s={({c with ap:=c.ap+1,iR:=c.iR+1 -a,jO:=c.jO+a,mQ:=mx c.mQ (iz s.heap)}:lO)with depth:=mx c.depth s.av.length,ft:=my c.ft s.heap}:=by
   unfold Eg;simp only[];rw[ae n,aj k]
  rw[en]
  refine⟨c.iR,i.bU 1,i.eC (by simp[NB]),?_⟩
  rw[aP (b:=c.iR+1) V V,aP (b:=c.iR+1 -a) V V]
  intro u
  have o2:eX g f u:=o1.ag _ _
  have j:cw u g e (NB {c with ap:=c.ap+1,iR:=c.iR+1 -a}):=i.ag (m:=f) (o:=1) (r:=[.i (c.iR+1 -a)])
  clear_value u
  refine⟨c.jO,j.bU 2,j.eC (by simp[NB]),?_⟩
  rw[aP V V]
  intro y
  have o3:eX g f y:=o2.ag _ _
  have t:cw y g e (NB {c with ap:=c.ap+1,iR:=c.iR+1 -a,jO:=c.jO+a}):=j.ag (m:=f) (o:=2) (r:=[.i (c.jO+a)])
  clear_value y
  have S:=K.congr (o3.same h J v)
  refine⟨c.mQ,t.bU 5,q,S.bU 7,(GQ (H.dQ λD=>o3.same _ (H.lt D) (L D)) N).mono ?_⟩
  rintro _ m4 ⟨rfl,D⟩
  have F:=t.ext D
  refine⟨_,rfl,D.cr (t.bU 5),F.eC (by simp[NB]),?_⟩
  intro P
  have o5:eX g f P:=(o3.ext D).ag _ _
  have R:cw P g e (NB {c with ap:=c.ap+1,iR:=c.iR+1 -a,jO:=c.jO+a,mQ:=mx c.mQ (iz s.heap)}):=F.ag (m:=f) (o:=5) (r:=[.i (mx c.mQ (iz s.heap))])
  exact tail R o5
 .have k:¬(b=6\/b=10):=by simp at C;omega
  refine⟨λt=>?_,λt=>⟨λy=>?_,λy=>?_⟩⟩
  .have j:b=14:=by simpa using t
   have en:Eg c b a s={({c with ap:=c.ap+1,zS:=c.zS+1}:lO)with depth:=mx c.depth s.av.length,ft:=my c.ft s.heap}:=by
    unfold Eg;simp only[];rw[ae n,ae k,aj j]
   rw[en]
   refine⟨c.zS,i.bU 3,i.eC (by simp[NB]),?_⟩
   rw[aP V V]
   exact tail (l:={c with ap:=c.ap+1,zS:=c.zS+1}) (i.ag (m:=f) (o:=3) (r:=[.i (c.zS+1)])) (o1.ag _ _)
  .have j:¬b=14:=by simpa using t
   have u:b=15:=by simpa using y
   have en:Eg c b a s={({c with ap:=c.ap+1,ru:=c.ru+1}:lO)with depth:=mx c.depth s.av.length,ft:=my c.ft s.heap}:=by
    unfold Eg;simp only[];rw[ae n,ae k,ae j,aj u]
   rw[en]
   refine⟨c.ru,i.bU 4,i.eC (by simp[NB]),?_⟩
   rw[aP V V]
   exact tail (l:={c with ap:=c.ap+1,ru:=c.ru+1}) (i.ag (m:=f) (o:=4) (r:=[.i (c.ru+1)])) (o1.ag _ _)
  .have j:¬b=14:=by simpa using t
   have u:¬b=15:=by simpa using y
   have en:Eg c b a s={({c with ap:=c.ap+1}:lO)with depth:=mx c.depth s.av.length,ft:=my c.ft s.heap}:=by
    unfold Eg;simp only[];rw[ae n,ae k,ae j,ae u]
   rw[en]
   exact tail i o1
def Qu(b:cg)(bq:Int):∃c:lO,∀k,k<=100000->(ap b k (cA b bq)).bI≠3->(∀j,j<k->(ap b j (cA b bq)).bI=3)->c=gV b (cA b bq) k:=by
 by_cases h:∃k,k<=100000/\(ap b k (cA b bq)).bI≠3/\(∀j,j<k->(ap b j (cA b bq)).bI=3)
 .obtain⟨k,_,d,e⟩:=h;refine⟨gV b (cA b bq) k,λj _ f g=>?_⟩;have:j=k:=by
   rcases Nat.lt_trichotomy j k with a|a|a
   .exact absurd (e j a) f
   .exact a
   .exact absurd (g k a) d
  rw[this]
 .exact⟨⟨0,0,0,0,0,0,0,0⟩,λk a d e=>absurd ⟨k,a,d,e⟩ h⟩
noncomputable def om (b:cg) (bq:Int):lO:=Classical.choose (Qu b bq)
def BG{bq:Int}(a:k<=100000)(c:(ap b k (cA b bq)).bI≠3)(d:∀j,j<k->(ap b j (cA b bq)).bI=3):om b bq=gV b (cA b bq) k:=
 eB (Qu b bq) k a c d
def He(c:lO):Value:=.agg #[vi c.ap,vi c.iR,vi c.jO,vi c.zS,vi c.ru,vi c.mQ,vi c.depth,vi c.ft]
def Rz(b:cg)(bq:Int):gV b (cA b bq) 0=⟨0,0,0,0,0,0,1,0⟩:=by
 simp[gV,So,cA,mx,iz,my]
def LP{bq:Int}(f:iE b)(e:0<=bq/\bq<=40)(h:k<=100000)(g:(ap b k (cA b bq)).bI=3):k<100000:=by
 rcases aZ k 100000 with a|a
 .exact a
 .have d:k=100000:=V;have c:=(Sr f e).2.2;rw[IW,<-d]at c;exact absurd g c
def Ki(S:eW f d p b)(C:iE b){bq:Int}(X:0<=bq/\bq<=40):
 aM cq 52 [.agg #[O.v d,O.v p],vi bq] f λar x=>ar=He (om b bq)/\J f x:=by
 apply Fa
 simp -zeta only[aC,aB]
 intro u c i
 have F:J f c:=((J.aA f).aH _).aH _
 have an:J f i:=F.aH _
 have Q:J c i:=(J.aA c).aH _
 have s1:u.size=f.size+1:=by simp[u]
 have s2:c.size=f.size+2:=by simp[c,s1]
 have s3:i.size=f.size+3:=by simp[i,s2]
 have kI:cw i f.size eA [.s d,.s p]:=((cw.push f _ _).ext (J.push u _)).ext Q
 have kC:cw i c.size xe (NB ⟨0,0,0,0,0,0,1,0⟩):=cw.push c _ _
 clear_value i
 have hl:∀g∈[c.size,u.size,f.size],g<i.size:=bJ
 refine(E8 (S.ext an) C bq).mono ?_
 rintro _ l ⟨aW,Y,N,rfl,s,b1,b2,b3,b4,k,q1,q2,q3,q4,q5,af,q6,k4⟩
 refine⟨s.dv hl,_,_,_,_,_,_,_,rfl,s.cr (kI.bU 0),s.cr (kI.bU 1),?_⟩
 intro v
 have R:J l v:=(J.aA l).aH _
 have kb:cw v l.size bS ([.s d,.s p]++[.i 3,.i 0,.i 0,.i bq,.s aW,.s Y,.s N]):=cw.push l _ _
 have y:=Ux (m:=i) ⟨q1,q2,q3,q4,q5⟩ af q6 k4 R (ad _) kb
 have s4:=s.size
 have s5:v.size=l.size+1:=by simp[v]
 clear_value v
 have M:=y.Vt (sb:=c.size) Q (y.jA _ V) (ad _) V
 generalize aa:pu (pu (pu (mJ (λ_=>0) b1 b2 b3 0) b4 4) l.size 1) c.size 9=ro at M
 have al:ro c.size=9:=by rw[<-aa];exact fQ _ _ _
 have E:=BE C X
 have T:=S.ext F
 have t:∀g∈[u.size,f.size],g<c.size:=bJ
 clear aa y
 refine Sv (λ(k:Nat) x=>k<=100000/\(∀j,j<k->(ap b j (cA b bq)).bI=3)/\cw x c.size xe (NB (gV b (cA b bq) k))/\
  ∃q o n h,qA c q x l.size bS (SB d p (ap b k (cA b bq)) o n h) o n h (ap b k (cA b bq)).aW (ap b k (cA b bq)).heap (ap b k (cA b bq)).av/\q c.size=9)
  (λk=>100000 -k) 0 ⟨eO _,λj U=>absurd U (iv _),by rw[Rz];exact((kC.ext s).ext R),ro,aW,Y,N,M,al⟩ ?_
 rintro k m6 au μ ⟨W,ab,h,aI,aG,aE,ay,q,r6⟩ ao
 have D:=wZ k E
 have w:=rS k E (rR b bq) V
 have am:=IU b (cA b bq) k
 refine⟨_,q.box.bU 2,λA=>?_,λA=>?_⟩
 .have r:(ap b k (cA b bq)).bI=3:=by simpa using A
  have aD:=LP C X W r
  let⟨fs,ax,aH,aF,az,pc,av,j,hf,ae,ea⟩:=q.ZJ T D r w.Dq
  refine(OZ (A:=c.size) q.box rfl rfl ae).mono ?_
  rintro _ m7 ⟨rfl,I⟩
  obtain⟨z,_⟩:=q.ext I
  have K:=h.ext I
  refine⟨I.dv (λg o=>q.cv.lt (t g o)),_,_,rfl,(O6 z T D w.Dq (oh w.heap) (oh w.aW)).mono ?_⟩
  rintro _ m8 ⟨ac,aq,Z,P,n,H⟩
  have z7:=K.lt
  have B8:=K.congr (H.dQ _ z7 (by rw[r6];simp))
  have G:ac c.size=9:=by rw[H.jc _ z7];exact r6
  rw[<-oT]at n
  have ag:=rS (k+1) E (rR b bq) V
  rw[<-ea]
  have ah:P.len=(ap b (k+1) (cA b bq)).av.length:=by
   let⟨aw,B⟩:=n.av;have:=B.pB.len;rw[cp B.size,B.len]at this;omega
  have ai:(ap b (k+1) (cA b bq)).heap≠[]->Z.D≠c.size:=λak e=>by
   have:=(n.heap.D (a:=0) (List.length_pos_iff.2 ak)).1;rw[e,G]at this;omega
  have aj:l.size≠c.size:=V
  refine⟨H.dL (λg o=>⟨z.cv.lt (t g o),z.jA g (t g o)⟩),(O1 n.box aj n.heap.jm ai (oh ag.heap) ah B8 (nv b (ap b k (cA b bq))).op (a:=Ji (rm b (ap b k (cA b bq)))) (by unfold Ji;split<;>omega) k V am).mono ?_⟩
  rintro _ m9 ⟨rfl,L,o9⟩
  have en:Eg (gV b (cA b bq) k) (nv b (ap b k (cA b bq))).op (Ji (rm b (ap b k (cA b bq)))) (ap b (k+1) (cA b bq))=gV b (cA b bq) (k+1):=by
   rw[oT,SS D r (Jy b _ k)];rfl
  rw[en]at L
  have aA:=n.cv.size
  refine⟨o9.dv (λg o=>⟨by have:=t g o;omega,oh (t g o)⟩),ao (k+1) m9 ⟨V,λj U=>?_,L,ac,aq,Z,P,n.Qc G o9,G⟩ (by show 100000 -(k+1)<100000 -k;omega)⟩
  rcases aZ j k with o|o
  .exact ab j o
  .have:j=k:=V
   rw[this];exact r
 .have r:(ap b k (cA b bq)).bI≠3:=by simpa using A
  refine⟨_,h.bU 0,_,h.bU 1,_,h.bU 2,_,h.bU 3,_,h.bU 4,_,h.bU 5,_,h.bU 6,_,h.bU 7,?_⟩
  intro m7
  rw[BG W r ab]
  exact⟨rfl,(F.trans q.cv).ag V _ _⟩
structure Sta where
 c:lO
 ok:Bool
open Classical in
noncomputable def qx (b:cg) (bq:Int):Sta:=
 if iE b/\0<=bq/\bq<=40 then⟨om b bq,true⟩else⟨⟨0,0,0,0,0,0,0,0⟩,false⟩
def JN(q:eW f d p b)(bq:Int):vm cq 26 [.agg #[O.v d,O.v p],vi bq] f (.tuple #[He (qx b bq).c,vb (qx b bq).ok]):=by
 apply Es;simp -zeta only[aC,aB];intro m e;have c:J f e:=((J.aA f).aH _).aH _;have v:m.size=f.size+1:=by simp[m]
 have B:e.size=f.size+2:=by simp[e,v]
 clear_value e;have l:∀a∈[m.size,f.size],a<e.size:=bJ;have t:¬(iE b/\0<=bq/\bq<=40)->(.tuple #[.agg #[vi (0:Int),vi (0:Int),vi (0:Int),vi (0:Int),vi (0:Int),vi (0:Int),vi (0:Int),vi (0:Int)],vb false]:Value)=.tuple #[He (qx b bq).c,vb (qx b bq).ok]:=λu=>by
  rw[qx,ae u];rfl
 refine(Fe (q.ext c)).aK (J.aA _) l λa x h n _=>⟨a,rfl,λi=>⟨t (λk=>nb h i k.1),(c.trans n).ag V _ _⟩,λi=>?_⟩;have s:=yb h i;refine(bF _ _ _ _).aK n l λb2 y o w g=>⟨b2,rfl,λj=>⟨t (λk=>nb o j k.2),(c.trans g).ag V _ _⟩,λj=>?_⟩;have r:=yb o j;refine(Ki (q.ext (c.trans g)) s r).mono ?_;rintro _ z ⟨rfl,k⟩;refine⟨k.dv (λa h=>g.lt (l a h)),_,_,_,_,_,_,_,_,rfl,?_⟩;intro A;refine⟨?_,(c.trans (g.trans k)).ag V _ _⟩;rw[qx,aj ⟨s,r⟩];rfl
end
def tj(e i b1 f:Nat)(m g:O)(T:E)(S:Value->E->Prop):Prop:=
 ∃(z:E->Prop)(μ0:E->Nat),
 z T/\
 (∀(a:E),z a->
 ∃G:Int,af a e 3=some (vi G)/\
 ((G==(3:Int))=true->
 ∃k:O,af a e 9=some (O.v k)/\
 ∃r:O,af a e 9=some (O.v r)/\
 (0:Int)<=(cR ((r.len:Int) -(1:Int)))/\(cR ((r.len:Int) -(1:Int)))<(k.len:Int)/\
 ∃l:Int,af a k.D (k.off+Int.toNat (cR ((r.len:Int) -(1:Int)))*6)=some (vi l)/\
 ∃d:Int,af a k.D (k.off+Int.toNat (cR ((r.len:Int) -(1:Int)))*6+1)=some (vi d)/\
 ∃s:Int,af a k.D (k.off+Int.toNat (cR ((r.len:Int) -(1:Int)))*6+2)=some (vi s)/\
 ∃t:O,af a k.D (k.off+Int.toNat (cR ((r.len:Int) -(1:Int)))*6+3)=some (O.v t)/\
 ∃u:O,af a k.D (k.off+Int.toNat (cR ((r.len:Int) -(1:Int)))*6+4)=some (O.v u)/\
 ∃p:O,af a k.D (k.off+Int.toNat (cR ((r.len:Int) -(1:Int)))*6+5)=some (O.v p)/\
 let U:E:=a.push (.cells (bA [.i (0:Int),.i (0:Int),.i (0:Int),.s O.nil,.s O.nil,.s O.nil]) cL)
 rX a.size a.size (
 let b:E:=ag U a.size 0 [.i l,.i d,.i s,.s t,.s u,.s p]
 rX f f (
 rX a.size a.size (
 (0:Int)<=l/\l<(g.len:Int)/\
 ∃c:O,af b g.D (g.off+Int.toNat l*5+4)=some (O.v c)/\
 rX a.size a.size (
 (0:Int)<=d/\d<(c.len:Int)/\
 ∃n:Int,af b c.D (c.off+Int.toNat d*6)=some (vi n)/\
 ∃v:Int,af b c.D (c.off+Int.toNat d*6+1)=some (vi v)/\
 ∃w:Int,af b c.D (c.off+Int.toNat d*6+2)=some (vi w)/\
 ∃j:Int,af b c.D (c.off+Int.toNat d*6+3)=some (vi j)/\
 ∃x:O,af b c.D (c.off+Int.toNat d*6+4)=some (O.v x)/\
 ∃y:O,af b c.D (c.off+Int.toNat d*6+5)=some (O.v y)/\
 let o:E:=b.push (.cells (bA [.i (0:Int),.i (0:Int),.i (0:Int),.i (0:Int),.s O.nil,.s O.nil]) de)
 af o c.D (c.off+Int.toNat d*6)=af b c.D (c.off+Int.toNat d*6)/\
 af o c.D (c.off+Int.toNat d*6+1)=af b c.D (c.off+Int.toNat d*6+1)/\
 af o c.D (c.off+Int.toNat d*6+2)=af b c.D (c.off+Int.toNat d*6+2)/\
 af o c.D (c.off+Int.toNat d*6+3)=af b c.D (c.off+Int.toNat d*6+3)/\
 af o c.D (c.off+Int.toNat d*6+4)=af b c.D (c.off+Int.toNat d*6+4)/\
 af o c.D (c.off+Int.toNat d*6+5)=af b c.D (c.off+Int.toNat d*6+5)/\
 af o a.size 1=af b a.size 1/\
 af o g.D (g.off+Int.toNat l*5+4)=af b g.D (g.off+Int.toNat l*5+4)/\
 af o a.size 0=af b a.size 0/\
 af o f 1=af b f 1/\
 rX b.size b.size (
 let C:E:=ag o b.size 0 [.i n,.i v,.i w,.i j,.s x,.s y]
 ∃B:Bool->E->Prop,
 (rX b.size b.size (
 ((n==(6:Int))=true->
 rX b.size b.size (
 ((j !=(0:Int))=true->
 rX a.size a.size (
 rX b.size b.size (
 (0:Int)<=(if(0:Int)>(cR (j -(1:Int)))then(0:Int)else(cR (j -(1:Int))))/\(if(0:Int)>(cR (j -(1:Int)))then(0:Int)else(cR (j -(1:Int))))<(p.len:Int)/\
 ∃h:Int,af C p.D (p.off+Int.toNat (if(0:Int)>(cR (j -(1:Int)))then(0:Int)else(cR (j -(1:Int))))*1)=some (vi h)/\
 JE (SV.box b.size de [.i n,.i v,.i w,.i j,.s x,.s y]) (SV.box b.size de [.i n,.i v,.i w,.i j,.s x,.s y]) (
 JE (SV.box a.size cL [.i l,.i d,.i s,.s t,.s u,.s p]) (SV.box a.size cL [.i l,.i d,.i s,.s t,.s u,.s p]) (
 JE (SV.box b1 dj [.i (0:Int),.i (0:Int),.i (0:Int),.i (0:Int),.i (0:Int),.i (0:Int),.i (0:Int),.i (0:Int)]) (SV.box b1 dj [.i (0:Int),.i (0:Int),.i (0:Int),.i (0:Int),.i (0:Int),.i (0:Int),.i (0:Int),.i (0:Int)]) (
 JE (SV.box f eA [.s m,.s g]) (SV.box f eA [.s m,.s g]) (
 B (h !=(0:Int)) C)))))))/\
 ((j !=(0:Int))=false->
 JE (SV.box b.size de [.i n,.i v,.i w,.i j,.s x,.s y]) (SV.box b.size de [.i n,.i v,.i w,.i j,.s x,.s y]) (
 JE (SV.box a.size cL [.i l,.i d,.i s,.s t,.s u,.s p]) (SV.box a.size cL [.i l,.i d,.i s,.s t,.s u,.s p]) (
 JE (SV.box b1 dj [.i (0:Int),.i (0:Int),.i (0:Int),.i (0:Int),.i (0:Int),.i (0:Int),.i (0:Int),.i (0:Int)]) (SV.box b1 dj [.i (0:Int),.i (0:Int),.i (0:Int),.i (0:Int),.i (0:Int),.i (0:Int),.i (0:Int),.i (0:Int)]) (
 JE (SV.box f eA [.s m,.s g]) (SV.box f eA [.s m,.s g]) (
 B false C)))))))/\
 ((n==(6:Int))=false->
 JE (SV.box b.size de [.i n,.i v,.i w,.i j,.s x,.s y]) (SV.box b.size de [.i n,.i v,.i w,.i j,.s x,.s y]) (
 JE (SV.box a.size cL [.i l,.i d,.i s,.s t,.s u,.s p]) (SV.box a.size cL [.i l,.i d,.i s,.s t,.s u,.s p]) (
 JE (SV.box b1 dj [.i (0:Int),.i (0:Int),.i (0:Int),.i (0:Int),.i (0:Int),.i (0:Int),.i (0:Int),.i (0:Int)]) (SV.box b1 dj [.i (0:Int),.i (0:Int),.i (0:Int),.i (0:Int),.i (0:Int),.i (0:Int),.i (0:Int),.i (0:Int)]) (
 JE (SV.box f eA [.s m,.s g]) (SV.box f eA [.s m,.s g]) (
 B false C)))))))/\
 (∀(jO:Bool)(D:E),B jO D->
 aM cq 33 [vp e 0] D λX A=>
 dY [b.size,a.size,b1,f] D A/\
 ∃R:Int,af A i 0=some (vi R)/\
 eC A i 0 1/\
 let h:E:=ag A i 0 [.i (cR (R+(1:Int)))]
 dY [b.size,a.size,b1,f] A h/\
 ∃H:Int,af h e 3=some (vi H)/\
 ((H==(3:Int))=true->
 rX b.size b.size (
 aM cq 50 [vp i 0,vi n,vb jO] h λV q=>
 dY [b.size,a.size,b1,f] h q/\
 ∃I:Int,af q e 3=some (vi I)/\
 ∃J:Int,af q e 4=some (vi J)/\
 ∃K:Int,af q e 5=some (vi K)/\
 ∃L:Int,af q e 6=some (vi L)/\
 ∃M:O,af q e 7=some (O.v M)/\
 ∃N:O,af q e 8=some (O.v N)/\
 ∃P:O,af q e 9=some (O.v P)/\
 aM cq 49 [vp i 0,.agg #[vi I,vi J,vi K,vi L,O.v M,O.v N,O.v P]] q λQ F=>
 dY [b.size,a.size,b1,f] q F/\
 JE (SV.box b1 dj [.i (0:Int),.i (0:Int),.i (0:Int),.i (0:Int),.i (0:Int),.i (0:Int),.i (0:Int),.i (0:Int)]) (SV.box b1 dj [.i (0:Int),.i (0:Int),.i (0:Int),.i (0:Int),.i (0:Int),.i (0:Int),.i (0:Int),.i (0:Int)]) (
 JE (SV.box f eA [.s m,.s g]) (SV.box f eA [.s m,.s g]) (
 z F/\μ0 F<μ0 a))))/\
 ((H==(3:Int))=false->
 ∃I:Int,af h e 3=some (vi I)/\
 ((I==(0:Int))=true->
 rX b.size b.size (
 aM cq 50 [vp i 0,vi n,vb jO] h λV q=>
 dY [b.size,a.size,b1,f] h q/\
 ∃J:Int,af q e 3=some (vi J)/\
 ∃K:Int,af q e 4=some (vi K)/\
 ∃L:Int,af q e 5=some (vi L)/\
 ∃M:Int,af q e 6=some (vi M)/\
 ∃N:O,af q e 7=some (O.v N)/\
 ∃P:O,af q e 8=some (O.v P)/\
 ∃Q:O,af q e 9=some (O.v Q)/\
 aM cq 49 [vp i 0,.agg #[vi J,vi K,vi L,vi M,O.v N,O.v P,O.v Q]] q λW F=>
 dY [b.size,a.size,b1,f] q F/\
 JE (SV.box b1 dj [.i (0:Int),.i (0:Int),.i (0:Int),.i (0:Int),.i (0:Int),.i (0:Int),.i (0:Int),.i (0:Int)]) (SV.box b1 dj [.i (0:Int),.i (0:Int),.i (0:Int),.i (0:Int),.i (0:Int),.i (0:Int),.i (0:Int),.i (0:Int)]) (
 JE (SV.box f eA [.s m,.s g]) (SV.box f eA [.s m,.s g]) (
 z F/\μ0 F<μ0 a))))/\
 ((I==(0:Int))=false->
 ∃F:Int,af h e 3=some (vi F)/\
 ∃J:Int,af h e 4=some (vi J)/\
 ∃K:Int,af h e 5=some (vi K)/\
 ∃L:Int,af h e 6=some (vi L)/\
 ∃M:O,af h e 7=some (O.v M)/\
 ∃N:O,af h e 8=some (O.v N)/\
 ∃P:O,af h e 9=some (O.v P)/\
 aM cq 49 [vp i 0,.agg #[vi F,vi J,vi K,vi L,O.v M,O.v N,O.v P]] h λQ q=>
 dY [b.size,a.size,b1,f] h q/\
 JE (SV.box b1 dj [.i (0:Int),.i (0:Int),.i (0:Int),.i (0:Int),.i (0:Int),.i (0:Int),.i (0:Int),.i (0:Int)]) (SV.box b1 dj [.i (0:Int),.i (0:Int),.i (0:Int),.i (0:Int),.i (0:Int),.i (0:Int),.i (0:Int),.i (0:Int)]) (
 JE (SV.box f eA [.s m,.s g]) (SV.box f eA [.s m,.s g]) (
 z q/\μ0 q<μ0 a)))))))))))/\
 ((G==(3:Int))=false->
 ∃b:Int,af a i 0=some (vi b)/\
 ∃c:Int,af a i 1=some (vi c)/\
 ∃d:Int,af a i 2=some (vi d)/\
 ∃h:Int,af a i 3=some (vi h)/\
 ∃j:Int,af a i 4=some (vi j)/\
 ∃k:Int,af a i 5=some (vi k)/\
 ∃l:Int,af a i 6=some (vi l)/\
 ∃n:Int,af a i 7=some (vi n)/\
 rX b1 b1 (
 let o:E:=ag a b1 0 [.i b,.i c,.i d,.i h,.i j,.i k,.i l,.i n]
 rX b1 b1 (
 S (.tuple #[.agg #[vi b,vi c,vi d,vi h,vi j,vi k,vi l,vi n],vb true]) o))))
def wc(e:O)(f:O)(bq:Int)(m:E)(R:Value->E->Prop):Prop:=
 let a:E:=m.push (.cells (bA [.s e,.s f]) eA)
 let s:E:=a.push (.cells (bA [.i (0:Int),.i (0:Int),.i (0:Int),.i (0:Int),.i (0:Int),.i (0:Int),.i (0:Int),.i (0:Int)]) dj)
 rX m.size m.size (
 aM cq 43 [.agg #[O.v e,O.v f]] s λv b=>
 dY [a.size,m.size] s b/\
 ∃i:Bool,v=vb i/\
 ((!i)=true->
 rX a.size a.size (
 let c:E:=ag b a.size 0 [.i (0:Int),.i (0:Int),.i (0:Int),.i (0:Int),.i (0:Int),.i (0:Int),.i (0:Int),.i (0:Int)]
 rX a.size a.size (
 R (.tuple #[.agg #[vi (0:Int),vi (0:Int),vi (0:Int),vi (0:Int),vi (0:Int),vi (0:Int),vi (0:Int),vi (0:Int)],vb false]) c)))/\
 ((!i)=false->
 ((decide (bq<(0:Int)))=true->
 rX a.size a.size (
 let c:E:=ag b a.size 0 [.i (0:Int),.i (0:Int),.i (0:Int),.i (0:Int),.i (0:Int),.i (0:Int),.i (0:Int),.i (0:Int)]
 rX a.size a.size (
 R (.tuple #[.agg #[vi (0:Int),vi (0:Int),vi (0:Int),vi (0:Int),vi (0:Int),vi (0:Int),vi (0:Int),vi (0:Int)],vb false]) c)))/\
 ((decide (bq<(0:Int)))=false->
 ((decide (bq>(40:Int)))=true->
 rX a.size a.size (
 let c:E:=ag b a.size 0 [.i (0:Int),.i (0:Int),.i (0:Int),.i (0:Int),.i (0:Int),.i (0:Int),.i (0:Int),.i (0:Int)]
 rX a.size a.size (
 R (.tuple #[.agg #[vi (0:Int),vi (0:Int),vi (0:Int),vi (0:Int),vi (0:Int),vi (0:Int),vi (0:Int),vi (0:Int)],vb false]) c)))/\
 ((decide (bq>(40:Int)))=false->
 rX m.size m.size (
 rX m.size m.size (
 rX m.size m.size (
 (aM cq 31 [O.v e] b λw c=>
 dY [a.size,m.size] b c/\
 ∃j:Int,w=vi j/\
 af c m.size 0=af b m.size 0/\
 af c m.size 1=af b m.size 1/\
 af c m.size 0=af b m.size 0/\
 af c m.size 1=af b m.size 1/\
 (aM cq 48 [.agg #[O.v e,O.v f],vi bq] c λx d=>
 dY [a.size,m.size] c d/\
 ∃k:Int,∃l:Int,∃n:Int,∃o:Int,∃p:O,∃q:O,∃r:O,x=.agg #[vi k,vi l,vi n,vi o,O.v p,O.v q,O.v r]/\
 af d m.size 0=af c m.size 0/\
 af d m.size 1=af c m.size 1/\
 let g:E:=d.push (.cells (bA [.s O.nil,.s O.nil,.i (0:Int),.i (0:Int),.i (0:Int),.i (0:Int),.i (0:Int),.s O.nil,.s O.nil,.s O.nil]) bg)
 af g m.size 0=af d m.size 0/\
 af g m.size 1=af d m.size 1/\
 af g m.size 0=af d m.size 0/\
 af g m.size 0=af d m.size 0/\
 af g m.size 1=af d m.size 1/\
 rX d.size d.size (
 let h:E:=ag g d.size 0 [.s e,.s f,.i j,.i k,.i l,.i n,.i o,.s p,.s q,.s r]
 let t:E:=h.push (.cells (bA [.i (0:Int),.i (0:Int),.i (0:Int),.i (0:Int),.i (0:Int),.i (0:Int),.i (0:Int),.i (0:Int)]) dj)
 rX d.size d.size (
 aM cq 49 [vp h.size 0,.agg #[vi k,vi l,vi n,vi o,O.v p,O.v q,O.v r]] t λy u=>
 dY [d.size,a.size,m.size] t u/\
 tj d.size h.size a.size m.size e f u R)))/\
 (let d:E:=c.push (.cells (bA [.s O.nil,.s O.nil,.i (0:Int),.i (0:Int),.i (0:Int),.i (0:Int),.i (0:Int),.s O.nil,.s O.nil,.s O.nil]) bg)
 af d m.size 0=af c m.size 0/\
 af d m.size 1=af c m.size 1/\
 af d m.size 0=af c m.size 0/\
 af d m.size 0=af c m.size 0/\
 af d m.size 1=af c m.size 1/\
 aM cq 48 [.agg #[O.v e,O.v f],vi bq] d λx g=>
 dY [c.size,a.size,m.size] d g/\
 ∃k:Int,∃l:Int,∃n:Int,∃o:Int,∃p:O,∃q:O,∃r:O,x=.agg #[vi k,vi l,vi n,vi o,O.v p,O.v q,O.v r]/\
 af g m.size 0=af d m.size 0/\
 af g m.size 1=af d m.size 1/\
 rX c.size c.size (
 let h:E:=ag g c.size 0 [.s e,.s f,.i j,.i k,.i l,.i n,.i o,.s p,.s q,.s r]
 let t:E:=h.push (.cells (bA [.i (0:Int),.i (0:Int),.i (0:Int),.i (0:Int),.i (0:Int),.i (0:Int),.i (0:Int),.i (0:Int)]) dj)
 rX c.size c.size (
 aM cq 49 [vp h.size 0,.agg #[vi k,vi l,vi n,vi o,O.v p,O.v q,O.v r]] t λy u=>
 dY [c.size,a.size,m.size] t u/\
 tj c.size h.size a.size m.size e f u R))))/\
 (let c:E:=b.push (.cells (bA [.s O.nil,.s O.nil,.i (0:Int),.i (0:Int),.i (0:Int),.i (0:Int),.i (0:Int),.s O.nil,.s O.nil,.s O.nil]) bg)
 af c m.size 0=af b m.size 0/\
 af c m.size 1=af b m.size 1/\
 af c m.size 0=af b m.size 0/\
 af c m.size 0=af b m.size 0/\
 af c m.size 1=af b m.size 1/\
 aM cq 31 [O.v e] c λw d=>
 dY [b.size,a.size,m.size] c d/\
 ∃u:Int,w=vi u/\
 af d m.size 0=af c m.size 0/\
 af d m.size 1=af c m.size 1/\
 af d m.size 0=af c m.size 0/\
 af d m.size 1=af c m.size 1/\
 aM cq 48 [.agg #[O.v e,O.v f],vi bq] d λx g=>
 dY [b.size,a.size,m.size] d g/\
 ∃j:Int,∃k:Int,∃l:Int,∃n:Int,∃o:O,∃p:O,∃q:O,x=.agg #[vi j,vi k,vi l,vi n,O.v o,O.v p,O.v q]/\
 af g m.size 0=af d m.size 0/\
 af g m.size 1=af d m.size 1/\
 rX b.size b.size (
 let h:E:=ag g b.size 0 [.s e,.s f,.i u,.i j,.i k,.i l,.i n,.s o,.s p,.s q]
 let r:E:=h.push (.cells (bA [.i (0:Int),.i (0:Int),.i (0:Int),.i (0:Int),.i (0:Int),.i (0:Int),.i (0:Int),.i (0:Int)]) dj)
 rX b.size b.size (
 aM cq 49 [vp h.size 0,.agg #[vi j,vi k,vi l,vi n,O.v o,O.v p,O.v q]] r λy t=>
 dY [b.size,a.size,m.size] r t/\
 tj b.size h.size a.size m.size e f t R))))))))))
def Co(a:O)(b:O)(bq:Int)(m:E)(R:Value->E->Prop)(d:wc a b bq m R):aM cq 25 [.agg #[O.v a,O.v b],vi bq] m R:=
 qP (o:=⟨[(6,[])],[(11,[(10,.T)])],[(6,[105,103]),(11,[110,109,105,103])]⟩) (d:=101) (r:=[.cell 4 dj,.tmp 5]) (a:=[.agg [.s a,.s b],.c (.i bq)]) Mw Yd Yi Tryz.func25 (m:=HA Tryz.f25) (by kernel_rfl) (by kernel_rfl) (by kernel_rfl) (by kernel_rfl) aL (by kernel_rfl) (Eq.mp (by kernel_rfl) d)
def O9{R M m2:E}{N H fr:O}{b:cg}{bq:Int}{ro:Nat->Nat}{i c b1 t:Nat}(ar:iE b)(hm:0<=bq/\bq<=40)(aq:eW M N H b)(a1:J R M)(aV:R.size<=b1/\b1<M.size)(a6:t<M.size)(k0:af M t 1=some (O.v H))(a_:M.size<=c)(a8:i≠c)
 (aO:qA M ro m2 i bg (IB N H (bH b) (cA b bq) .nil .nil fr) .nil .nil fr [] [] [br b 0 0 []])(r2:ro c=9)(aL:cw m2 c dj (NB (gV b (cA b bq) 0))):
 tj i c b1 t N H m2 (λv C=>v=.tuple #[He (om b bq),vb true]/\J R C):=by
 unfold tj
 simp -zeta only[aC,aB]
 have ah:=BE ar hm
 refine Sv (λ(k:Nat) C=>k<=100000/\(∀u,u<k->(ap b u (cA b bq)).bI=3)/\cw C c dj (NB (gV b (cA b bq) k))/\
  ∃g f e d,qA M g C i bg (IB N H (bH b) (ap b k (cA b bq)) f e d) f e d (ap b k (cA b bq)).aW (ap b k (cA b bq)).heap (ap b k (cA b bq)).av/\g c=9)
  (λk=>100000 -k) 0 ⟨eO _,λu hj=>absurd hj (iv _),aL,ro,.nil,.nil,fr,aO,r2⟩ ?_
 rintro k h aN μ ⟨hk,av,p,a4,bb,a9,P,j,r3⟩ a3
 have au:=wZ k ah
 have Q:=rS k ah (rR b bq) V
 have ax:=IU b (cA b bq) k
 refine⟨_,j.box.bU 3,λh1=>?_,λh1=>?_⟩
 .have K:(ap b k (cA b bq)).bI=3:=by simpa using h1
  have a7:=LP ar hm hk K
  let⟨fs,x,al,ak,ab,pc,aQ,u,hf,F,ea⟩:=j.ZJ aq au K Q.Dq
  have hl:=F.frl
  have hs:=F.sm
  have e1:cR ((P.len:Int) -1)=(fs.length:Int):=by rw[aP V V];omega
  have e2:Int.toNat (fs.length:Int)=fs.length:=V
  have g9:af h i 9=some (O.v P):=j.box.bU 9
  refine⟨P,g9,P,g9,?_⟩
  rw[e1,e2]
  refine⟨V,V,_,F.g0,_,F.g1,_,F.g2,al,F.g3,ak,F.g4,ab,F.g5,?_⟩
  intro m4 f
  have x5:J h f:=((J.aA h).aH _).ag (ad _) _ _
  have s5:f.size=h.size+1:=by simp[f,m4,aw]
  have kF:cw f h.size cL [.i x.eg,.i x.pc,.i x.dst,.s al,.s ak,.s ab]:=cw.ag (m:=m4) (o:=0) (r:=[.i x.eg,.i x.pc,.i x.dst,.s al,.s ak,.s ab]) (cw.push h _ _)
  clear_value f
  have d:=F.ext x5
  refine⟨F.eg.1,F.eg.2,pc,d.cX,F.Y3.1,F.Y3.2,_,d.i0,_,d.i1,_,d.i2,_,d.i3,aQ,d.i4,u,d.i5,?_⟩
  intro m6
  have n:J f m6:=(J.aA f).aH _
  have a2:af f t 1=some (O.v H):=x5.af (j.cv.af k0)
  refine⟨n.cr d.i0,n.cr d.i1,n.cr d.i2,n.cr d.i3,n.cr d.i4,n.cr d.i5,n.cr (kF.bU 1),n.cr d.cX,n.cr (kF.bU 0),n.cr a2,?_⟩
  intro z
  have x7:J f z:=n.ag (ad _) _ _
  have s7:z.size=f.size+1:=by simp[z,m6,aw]
  clear_value z
  have aK:=x5.trans x7
  refine⟨λg C=>g=rm b (ap b k (cA b bq))/\C=z,⟨λW=>⟨λq7=>?_,λq7=>?_⟩,λW=>?_⟩,?_⟩
  .have s:(nv b (ap b k (cA b bq))).op=6:=by simpa using W
   let⟨D,p2⟩:=F.bM s
   have B:=F.kU
   have w:(nv b (ap b k (cA b bq))).bM≠0:=by simpa using q7
   have A:=F.aY.len
   let⟨y,v⟩:=cK x.aY (((nv b (ap b k (cA b bq))).bM -1).toNat)
   have q:aG x.aY ((nv b (ap b k (cA b bq))).bM -1)=y:=DQ v
   rw[aP V V,ae V]
   refine⟨V,V,y,(d.ext x7).aY.aG v,?_,rfl⟩
   rw[ea]
   by_cases e:y=0
   .rw[JB (λl=>l.2.2 (by rw[q];exact e))];simp[e]
   .rw[decide_eq_true (show _/\_/\_ from⟨s,w,by rw[q];exact e⟩)];simp[e]
  .refine⟨?_,rfl⟩
   rw[ea,JB (λl=>l.2.1 (by simpa using q7))]
  .refine⟨?_,rfl⟩
   rw[ea,JB (λl=>by simp at W;exact W l.1)]
  rintro _ M7 ⟨rfl,aS⟩
  have aT:=aS.symm
  subst aT
  obtain⟨L7,_⟩:=j.ext aK
  have B7:=p.ext aK
  have z3:=j.cv.size
  have z7:=B7.lt
  have zb:=p.lt
  have ao:zE a4 z [f.size,h.size,b1,t]:=λg y=>by
   simp at y;rcases y with rfl|rfl|rfl|rfl
   .exact⟨V,j.new _ V⟩
   .exact⟨V,j.new _ V⟩
   .exact⟨V,j.jA _ V⟩
   .exact⟨V,j.jA _ V⟩
  have an:∀g∈[f.size,h.size,b1,t],g<z.size/\g≠c:=λg y=>⟨(ao g y).1,by simp at y;omega⟩
  refine(Ge L7 aq au Q.Dq (oh Q.heap) (oh Q.aW)).mono ?_
  rintro _ D ⟨az,ay,ag,aa,I,X⟩
  have z8:=X.size
  have Y:=B7.congr (X.dQ _ z7 (by rw[r3];simp))
  have L:az c=9:=by rw[X.jc _ z7];exact r3
  rw[<-oT]at I
  have aU:=rS (k+1) ah (rR b bq) V
  have ba:=ax.ap
  refine⟨X.dL ao,_,Y.bU 0,Y.eC (by simp[NB]),?_⟩
  rw[aP V V]
  intro G
  have S:eX c D G:=(eX.aA c D).ag _ _
  have B9:cw G c dj (NB {gV b (cA b bq) k with ap:=(gV b (cA b bq) k).ap+1}):=Y.ag (m:=R) (o:=0) (r:=[.i ((gV b (cA b bq) k).ap+1)])
  have L9:=I.Qc L S
  have s9:G.size=D.size:=aw _ _ _ _
  clear_value G
  have ac:∀{e:E},D.size<=e.size->∀g∈[f.size,h.size,b1,t],g<e.size/\g≠c:=λhM g y=>⟨by have:=(an g y).1;omega,(an g y).2⟩
  have aW:aa.len=(ap b (k+1) (cA b bq)).av.length:=by
   let⟨a5,B⟩:=I.av;have:=B.pB.len;rw[cp B.size,B.len]at this;omega
  have aX:(ap b (k+1) (cA b bq)).heap≠[]->ag.D≠c:=λaY aR=>by
   have:=(I.heap.D (a:=0) (List.length_pos_iff.2 aY)).1;rw[aR,L]at this;omega
  have iy:∀{e:E}{A:lO},eX c D e->cw e c dj (NB A)->So A (ap b (k+1) (cA b bq))=gV b (cA b bq) (k+1)->
   ∃aA:Int,af e i 3=some (vi aA)/\∃aD:Int,af e i 4=some (vi aD)/\∃aE:Int,af e i 5=some (vi aE)/\∃aF:Int,af e i 6=some (vi aF)/\
   ∃aH:O,af e i 7=some (O.v aH)/\∃aI:O,af e i 8=some (O.v aI)/\∃aJ:O,af e i 9=some (O.v aJ)/\
   aM cq 49 [vp c 0,.agg #[vi aA,vi aD,vi aE,vi aF,O.v aH,O.v aI,O.v aJ]] e λbc ai=>
   dY [f.size,h.size,b1,t] e ai/\aN ai/\μ ai<μ h:=λ{e A} oM BM B=>by
   have s:=I.Qc L oM
   refine⟨_,s.box.bU 3,_,s.box.bU 4,_,s.box.bU 5,_,s.box.bU 6,ay,s.box.bU 7,ag,s.box.bU 8,aa,s.box.bU 9,(Jf BM s.heap.jm aX (oh aU.heap) aW _ _ _ _).mono ?_⟩
   rintro _ q ⟨rfl,w,v⟩
   rw[B]at w
   refine⟨v.dv (ac oM.size),a3 (k+1) q ⟨V,λu hj=>?_,w,az,ay,ag,aa,s.Qc L v,L⟩ (by show 100000 -(k+1)<100000 -k;omega)⟩
   rcases aZ u k with h4|h4
   .exact av u h4
   .have:u=k:=V
    rw[this];exact K
  have es:∀A,(if(ap b (k+1) (cA b bq)).bI=3\/(ap b (k+1) (cA b bq)).bI=0 then vj {gV b (cA b bq) k with ap:=(gV b (cA b bq) k).ap+1} (nv b (ap b k (cA b bq))).op (rm b (ap b k (cA b bq)))else{gV b (cA b bq) k with ap:=(gV b (cA b bq) k).ap+1})=A->
   So A (ap b (k+1) (cA b bq))=gV b (cA b bq) (k+1):=λA B=>by
   rw[<-B,oT];rfl
  have PJ:∀{Z:Value->E->Prop},(∀q,eX c D q->cw q c dj (NB (vj {gV b (cA b bq) k with ap:=(gV b (cA b bq) k).ap+1} (nv b (ap b k (cA b bq))).op (rm b (ap b k (cA b bq)))))->dY [f.size,h.size,b1,t] G q->Z (.tuple #[]) q)->
   aM cq 50 [vp c 0,vi (nv b (ap b k (cA b bq))).op,vb (rm b (ap b k (cA b bq)))] G Z:=λ{Z} hK=>by
   have a0:Py (k+1) {gV b (cA b bq) k with ap:=(gV b (cA b bq) k).ap+1}:=by
    let⟨t1,t2,t3,t4,t5⟩:=ax;exact⟨by simp only[];omega,by simp only[];omega,by simp only[];omega,by simp only[];omega,by simp only[];omega⟩
   refine(MU B9 _ _ (k+1) V a0).mono ?_
   rintro _ q ⟨rfl,w,v⟩
   exact hK q (S.trans v) w (v.dv (ac (uh s9.symm)))
  refine⟨S.dv (ac (ad _)),_,L9.box.bU 3,λT=>?_,λT=>⟨_,L9.box.bU 3,λU=>?_,λU=>?_⟩⟩
  .refine PJ λq v w am=>⟨am,iy v w (es _ ?_)⟩
   rw[aj (Or.inl (by simpa using T))]
  .refine PJ λq v w am=>⟨am,iy v w (es _ ?_)⟩
   rw[aj (Or.inr (by simpa using U))]
  .refine iy S B9 (es _ ?_)
   rw[ae (λl=>by simp at T U;rcases l with l|l;exact T l;exact U l)]
 .have K:(ap b k (cA b bq)).bI≠3:=by simpa using h1
  refine⟨_,p.bU 0,_,p.bU 1,_,p.bU 2,_,p.bU 3,_,p.bU 4,_,p.bU 5,_,p.bU 6,_,p.bU 7,?_⟩
  intro z
  rw[BG hk K av]
  exact⟨rfl,(a1.trans j.cv).ag aV.1 _ _⟩
def KH(e b1 b:Nat)(bq:Int)(f p g:O)(a:E)(R:Value->E->Prop):Prop:=
 let c:E:=a.push (.cells (bA [.i (0:Int),.i (0:Int),.i (0:Int),.i (0:Int),.i (0:Int),.i (0:Int),.i (0:Int),.i (0:Int)]) dj)
 aM cq 49 [vp a.size 0,.agg #[vi 3,vi 0,vi 0,vi bq,O.v .nil,O.v .nil,O.v g]] c λh d=>
 dY [e,b1,b] c d/\tj e a.size b1 b f p d R
def JJ{b:E}{f p:O}{a:cg}(aa:eW b f p a)(bq:Int):vm cq 25 [.agg #[O.v f,O.v p],vi bq] b (.tuple #[He (qx a bq).c,vb (qx a bq).ok]):=by
 apply Co;unfold wc;simp -zeta only[aC,aB];intro n v;have T:J b v:=((J.aA b).aH _).aH _;have s1:n.size=b.size+1:=by simp[n]
 have s2:v.size=b.size+2:=by simp[v,s1]
 have kI:cw v b.size eA [.s f,.s p]:=(cw.push b _ _).ext (J.push n _);clear_value v;have S:∀t∈[n.size,b.size],t<v.size:=bJ;have X:∀{e:E},J v e->¬(iE a/\0<=bq/\bq<=40)->((.tuple #[.agg #[vi (0:Int),vi (0:Int),vi (0:Int),vi (0:Int),vi (0:Int),vi (0:Int),vi (0:Int),vi (0:Int)],vb false]:Value)=.tuple #[He (qx a bq).c,vb (qx a bq).ok]/\
  J b (ag e n.size 0 [.i (0:Int),.i (0:Int),.i (0:Int),.i (0:Int),.i (0:Int),.i (0:Int),.i (0:Int),.i (0:Int)])):=λg ar=>by
  rw[qx,ae ar];exact⟨rfl,(T.trans g).ag V _ _⟩
 refine(oL (aa.ext T)).aK (J.aA _) S λt e j g _=>⟨t,rfl,λL=>X g (λc=>nb j L c.1),λL=>⟨λP=>X g (λc=>by simp at P;omega),λP=>⟨λQ=>X g (λc=>by simp at Q;omega),λQ=>?_⟩⟩⟩;have z:=yb j L;have hm:0<=bq/\bq<=40:=by simp at P Q;omega
 have ac:=T.trans g;have s3:=g.size;have B:=aa.ext ac;have U:=kI.ext g;have ht:=z.ni.types;have cc:∀{M:E},J e M->vm cq 31 [O.v f] M (vi (bH a)):=λA=>ny (B.ext A).bn ht.len (λc hd=>Ko ht c hd);have ks:∀{M i:E},J e M->J M i->(af i b.size 0=af M b.size 0/\af i b.size 1=af M b.size 1):=λx y=>⟨y.cr ((U.ext x).bU 0),y.cr ((U.ext x).bU 1)⟩;have sm:∀{M i:E},J e M->J M i->dY [n.size,b.size] M i:=λx y=>y.dv λt j=>x.lt (g.lt (S t j));have Y:∀{M i:E}{nb:Nat},J e M->J M i->nb<M.size->dY [nb,n.size,b.size] M i:=λx y aq=>y.dv λt j=>by
  rcases List.mem_cons.1 j with rfl|j
  .exact aq
  .exact x.lt (g.lt (S t j))
 have au:(qx a bq)=⟨om a bq,true⟩:=by rw[qx,aj ⟨z,hm⟩]
 rw[au];have W:∀{M c:E}{d:O}{b1 b2 b3 b4 k q:Nat},J e M->d=.mk b4 0 1 1->pE M c b1 b2 b3 k (br a 0 0 []).an (br a 0 0 []).aR (br a 0 0 []).aY->(b4≠b1/\b4≠b2/\b4≠b3/\M.size<=b4/\b4<c.size)->cw c b4 cL [.i 0,.i 0,.i 0,.s (.mk b1 0 k k),.s (.mk b2 0 k k),.s (.mk b3 0 k k)]->
  (M.size<=q/\q≠b1/\q≠b2/\q≠b3/\q≠b4)->cw c q bg ([.s f,.s p,.i (bH a)]++[.i 3,.i 0,.i 0,.i bq,.s .nil,.s .nil,.s d])->KH q n.size b.size bq f p d c (λl h=>l=.tuple #[He (om a bq),vb true]/\J b h):=λ{M c d b1 b2 b3 b4 k q} A l N H u hmb kb=>by
  have zM:=A.size
  have z9:=N.ext.size
  have Z:=NZ l N H u hmb kb
  have ax:=kb.lt
  unfold KH
  intro D
  have av:J c D:=(J.aA c).aH _
  have az:D.size=c.size+1:=by simp[D]
  have am:cw D c.size dj (NB ⟨0,0,0,0,0,0,0,0⟩):=cw.push c _ _
  clear_value D
  have r0:=Z.new c.size (ad _)
  have ao:=(Z.ext av).1.Vt (sb:=c.size) (J.aA M) r0 V V
  refine(Jf (s:=cA a bq) am ⟨rfl,λk w h=>by simp[cA]at h⟩ (λh=>absurd rfl h) (by simp[cA]) (by rw[l];simp[cA]) _ _ _ _).mono ?_
  rintro _ ay ⟨rfl,an,al⟩
  refine⟨al.dv bJ,?_⟩
  exact O9 z hm (B.ext A) (ac.trans A) ⟨V,V⟩ V (A.af (U.bU 1)) V V (ao.Qc (fQ _ _ _) al) (fQ _ _ _) an
 refine⟨(cc (J.aA _)).mono ?_,?_⟩
 .rintro _ w ⟨rfl,h⟩;have I:=ks (J.aA _) h;refine⟨sm (J.aA _) h,_,rfl,I.1,I.2,I.1,I.2,?_,?_⟩
  .refine(lV (B.ext h) z bq).mono ?_;rintro _ F ⟨d,rfl,G,b1,b2,b3,b4,k,l,N,H,u⟩;have ah:=ks h G;refine⟨sm h G,_,_,_,_,_,_,_,rfl,ah.1,ah.2,?_⟩;intro m8;have R:J F m8:=(J.aA F).aH _;have C:=ks (h.trans G) R;refine⟨C.1,C.2,C.1,C.1,C.2,?_⟩;intro c;have K:J F c:=R.ag (ad _) _ _;have kb:cw c F.size bg ([.s f,.s p,.i (bH a)]++[.i 3,.i 0,.i 0,.i bq,.s .nil,.s .nil,.s d]):=cw.ag (m:=m8) (o:=0) (r:=[.s f,.s p,.i (bH a),.i 3,.i 0,.i 0,.i bq,.s .nil,.s .nil,.s d]) (cw.push F _ _);have ab:=N.lo;have s9:=K.size;have s7:=G.size;exact W h l (N.PV K) V (u.ext K) V kb
  .intro F;have R:J w F:=(J.aA w).aH _;have aA:F.size=w.size+1:=by simp[F]
   have K:=h.trans R;have C:=ks h R;have kz:cw F w.size bg [.s .nil,.s .nil,.i 0,.i 0,.i 0,.i 0,.i 0,.s .nil,.s .nil,.s .nil]:=cw.push w _ _;refine⟨C.1,C.2,C.1,C.1,C.2,?_⟩;clear_value F;refine(lV (B.ext K) z bq).mono ?_;rintro _ ai ⟨d,rfl,G,b1,b2,b3,b4,k,l,N,H,u⟩;have ah:=ks K G;refine⟨Y K G V,_,_,_,_,_,_,_,rfl,ah.1,ah.2,?_⟩;intro ak;have ab:=N.lo;have ap:=N.box R (nb:=w.size) (ad _) V 0 [.s f,.s p,.i (bH a),.i 3,.i 0,.i 0,.i bq,.s .nil,.s .nil,.s d];have kb:cw ak w.size bg ([.s f,.s p,.i (bH a)]++[.i 3,.i 0,.i 0,.i bq,.s .nil,.s .nil,.s d]):=cw.ag (m:=ai) (o:=0) (r:=[.s f,.s p,.i (bH a),.i 3,.i 0,.i 0,.i bq,.s .nil,.s .nil,.s d]) (kz.ext G);have aD:ak.size=ai.size:=aw _ _ _ _;exact W h l ap V (u.congr (bo _ _ _ _ V)) V kb
 .intro F;have w:J e F:=(J.aA e).aH _;have aA:F.size=e.size+1:=by simp[F]
  have C:=ks (J.aA _) w;have kz:cw F e.size bg [.s .nil,.s .nil,.i 0,.i 0,.i 0,.i 0,.i 0,.s .nil,.s .nil,.s .nil]:=cw.push e _ _;refine⟨C.1,C.2,C.1,C.1,C.2,?_⟩;clear_value F;refine(cc w).mono ?_;rintro _ ap ⟨rfl,h⟩;have G:=w.trans h;have I:=ks w h;have aD:=h.size;refine⟨Y w h V,_,rfl,I.1,I.2,I.1,I.2,?_⟩;refine(lV (B.ext G) z bq).mono ?_;rintro _ ah ⟨d,rfl,K,b1,b2,b3,b4,k,l,N,H,u⟩;have R:=ks G K;refine⟨Y G K V,_,_,_,_,_,_,_,rfl,R.1,R.2,?_⟩;intro ai;have ab:=N.lo;have ak:=N.box G (nb:=e.size) (ad _) V 0 [.s f,.s p,.i (bH a),.i 3,.i 0,.i 0,.i bq,.s .nil,.s .nil,.s d];have kb:cw ai e.size bg ([.s f,.s p,.i (bH a)]++[.i 3,.i 0,.i 0,.i bq,.s .nil,.s .nil,.s d]):=cw.ag (m:=ah) (o:=0) (r:=[.s f,.s p,.i (bH a),.i 3,.i 0,.i 0,.i bq,.s .nil,.s .nil,.s d]) (kz.ext (h.trans K));have aE:ai.size=ah.size:=aw _ _ _ _;exact W (J.aA _) l ak V (u.congr (bo _ _ _ _ V)) V kb
def TBE:TT:=VT++[(1000057,⟨.tuple [],[],0⟩)]
def XQ:uj cq TBE:=by
 unfold uj;kernel_rfl
def tF(b:Int)(c:Int)(d:Int)(e:Int)(f:Int)(g:Int)(h:Int)(i:Int)(j:Int)(k:Int)(l:Int)(n:Int)(o:Int)(p:Int)(q:Int)(r:Int)(m:E)(R:Value->E->Prop):Prop:=
 let a:E:=m.push (.cells (bA [.i b,.i c,.i d,.i e,.i f,.i g,.i h,.i i]) 57)
 let s:E:=a.push (.cells (bA [.i j,.i k,.i l,.i n,.i o,.i p,.i q,.i r]) 57)
 rX m.size m.size (
 rX a.size a.size (
 R (vb (b==j&&(c==k&&(d==l&&(e==n&&(f==o&&(g==p&&(h==q&&(i==r&&true))))))))) s))
def yW(a:Int)(b:Int)(d:Int)(e:Int)(f:Int)(g:Int)(h:Int)(i:Int)(j:Int)(k:Int)(l:Int)(m:Int)(o:Int)(p:Int)(q:Int)(r:Int)(s:E)(R:Value->E->Prop)(t:tF a b d e f g h i j k l m o p q r s R):aM cq 27 [.agg #[vi a,vi b,vi d,vi e,vi f,vi g,vi h,vi i],.agg #[vi j,vi k,vi l,vi m,vi o,vi p,vi q,vi r]] s R:=
 qP (o:=⟨[],[],[]⟩) (d:=8) (r:=[.tmp 4]) (a:=[.agg [.i a,.i b,.i d,.i e,.i f,.i g,.i h,.i i],.agg [.i j,.i k,.i l,.i m,.i o,.i p,.i q,.i r]]) XQ Yd Yi Tryz.func27 (m:=HA Tryz.f27) (by kernel_rfl) (by kernel_rfl) (by kernel_rfl) (by kernel_rfl) aL (by kernel_rfl) (Eq.mp (by kernel_rfl) t)
section
def St.iC(s:St)(n:Int):St:={s with bq:=n}
section
variable{a:cg}{s:St}{f:aU}{x:Instr}{o:List Int}{b:List aU}
def kA.iC{n:Int}(h:kA a s f x o):kA a (s.iC n) f x o:=⟨h.nn,h.dst,h.nT,h.je,h.cO,h.zero,h.ret,h.apply,h.VV,h.drop,h.Jp,h.load,h.BJ⟩
structure aam(s t:St):Prop where
 bq:t.bq=s.bq
 bC:s.bC<=t.bC
 aW:s.aW<+:t.aW
 bI:t.bI=s.bI\/t.bI=0
end
end
section
def nz:List bO->Int
 |[]=>0
 |c::h=>(if c.aQ=0 then 0 else 1)+nz h
section
variable{a:cg}{s:St}{f:aU}{x:Instr}{aR:List Int}{b:List aU}
structure aan(c:lO)(s:St):Prop where
 nz:nz s.heap<=c.iR
 mQ:c.mQ<=c.iR
 depth:1<=c.depth/\c.depth<=s.bC+1
 ft:0<=c.ft/\(c.ft=0<->c.iR=0)
def K6(a:cg)(s:St):∀n,(ap a n s).bI≠3->∃k,k<=n/\(ap a k s).bI≠3/\∀j,j<k->(ap a j s).bI=3
 |0,h=>⟨0,ad _,h,λj d=>V⟩
 |n+1,h=>by
  by_cases b:(ap a n s).bI=3
  .refine⟨n+1,ad _,h,λj d=>dB λc=>?_⟩;have e:n=j+(n -j):=V;rw[e,IV,ou _ c]at b;exact c b
  .let⟨k,d,c⟩:=K6 a s n b;exact⟨k,V,c⟩
end
end
section
section
variable{m:E}
def tE(c:lO):vm cq 27 [He c,He c] m (vb true):=by
 apply yW;unfold tF;simp -zeta only[aC,aB];intro d a;have b:J m a:=((J.aA m).aH _).aH _;clear_value a;exact⟨aL,b⟩
def Er{cX:O}(h:Fu m cX):aM cq 24 [O.v cX] m (DR [] m):=by
 apply xJ;simp -zeta only[aC,aB];intro a;have e:J m a:=J.push m _;have t:a.size=m.size+1:=by simp[a]
 clear_value a;refine(yZ (a:=[m.size]) (h.ext e) bJ).mono λ_ o⟨d,p,n,k,g,b,f⟩=>⟨f.dv bJ,d,p,k,g,?_⟩;intro q;have c:Le (bP [m.size] o) (bP [] q):=λr s v l=>by
  let⟨i,j⟩:=eF.1 l;exact eF.2 ⟨aL,(aJ (bo _ _ _ _ (by simpa using i)) _).trans j⟩
 exact⟨d,p,n,k,rfl,⟨b.bn.le c,jz.le c b.cC⟩,(e.trans f).ag (ad _) _ _⟩
def XN{a:cg}{bq:Int}(h:(qx a bq).ok=true):(iE a/\0<=bq/\bq<=40)/\qx a bq=⟨om a bq,true⟩:=by
 have b:iE a/\0<=bq/\bq<=40:=by
  apply dB;intro c;rw[qx,ae c]at h;simp at h
 exact⟨b,aj b⟩
end
end
section
variable{c:E}{b:Nat->Nat}{a e:Nat}{f:List Ce}
def pG.Wj{m:E}{aW i d:O}{s:St}(h:pG c b m aW i d s)(g:b a=1)(l:List Ce)(kb:cw (ag m a 0 l) a e f):qA c b (ag m a 0 l) a e f aW i d s.aW s.heap s.av:=by
 have C:dz (λk=>k=1) b m b (ag m a 0 l):=dz.ag h.bs.new g _ _;let⟨b1,b2⟩:=(C.mono λk j=>by omega:To b m b _).cv h.bs.cv h.bs.jA;exact⟨b1,b2,C.new,kb,g,h.aW.eY C be,h.heap.eY C be be,h.av.eY C λk j=>V⟩
def qA.aah{m:E}{aW g d:O}{s:St}(L:qA c b m a e f aW g d s.aW s.heap s.av):pG c b m aW g d s:=⟨⟨L.cv,L.jA,L.new⟩,L.aW,L.heap,L.av⟩
section
variable{h:E}{d p aW j i:O}{g:cg}{s:St}
def MkL(a:E)(d p:O)(g:cg)(s:St)(o:Nat×Nat)(M:E):Prop:=o.2=0/\∃b aW j i,qA a b M o.1 bg (IB d p (bH g) s aW j i) aW j i s.aW s.heap s.av
abbrev vQ:List Ce:=[.s O.nil,.s O.nil,.i 0,.i 0,.i 0,.i 0,.i 0,.s O.nil,.s O.nil,.s O.nil]
variable(k:eW h d p g)(q:gQ h aW j i s)(l:Oi s)(r:s.aW.length<=10000000)
include k q l r
def wa(R:Int):aM cq 19 [.agg #[O.v d,O.v p],UW s aW j i,vi R] h (Xt h (LO g s R)):=by
 apply Cn;simp -zeta only[aC,aB];intro W Q X;have s1:W.size=h.size+1:=by simp[W]
 have s2:Q.size=h.size+2:=by simp[Q,s1]
 have s3:X.size=h.size+3:=by simp[X,s2]
 have S:J h X:=(((J.aA h).aH _).aH _).aH _;clear_value X;have N:∀v∈[Q.size,W.size,h.size],v<X.size:=bJ;refine(DX (k.ext S) (q.ext S) l).aK (J.aA _) N λb4 D al I _=>⟨b4,rfl,λh1=>Pk S I V (by unfold LO;rw[ae λc=>nb al h1 c.1]) _,λh1=>?_⟩;have U:=yb al h1;refine⟨λh2=>Pk S I V (by unfold LO;rw[ae λc=>by simp at h2;omega]) _,λh2=>⟨λT=>Pk S I V (by unfold LO;rw[ae λc=>by simp at T;omega]) _,λT=>?_⟩⟩;have hm:0<=R/\R<=100000:=by simp at h2 T;omega
 obtain⟨A,rfl⟩:∃A:Nat,R=A:=⟨R.toNat,V⟩;have hr:LO g s (A:Int)=⟨ap g A s,true⟩:=by unfold LO;rw[aj ⟨U,hm⟩];simp
 rw[hr];have X4:=S.trans I;have z4:=I.size;have ak:=Xz l r;have ax:=U.kU ak V;have ht:=U.fA.ni.types;have cc:∀{M:E},J D M->vm cq 31 [O.v d] M (vi (bH g)):=λP=>ny (k.ext (X4.trans P)).bn ht.len (λc hd=>Ko ht c hd);have c:∀{M x:E}{v:Nat},J M x->v<M.size->∀K,af x v K=af M v K:=λP au K=>aJ (P.same _ au) K;have cl:∀{b:Nat->Nat}{M:E}{ai:Value->E->Prop},Bs D b M->(∀v,b v<=1)->(∀aa B z y x,pG D aa x B z y s->dz (λ_=>False) b M aa x->J M x->M.size<=x.size->ai (UW s B z y) x)->aM cq 32 [UW s aW j i] M ai:=λah aw hK=>
  (D0 ah aw (q.ext (X4.trans ah.cv)) ax).mono λ_ x⟨aa,B,z,y,e,ao,ab⟩=>by rw[e];exact hK aa B z y x ao ab ab.Hh ab.size
 have am:∀{M x:E},J D M->x=M.push (.cells (bA vQ) bg)->Bs D (pu (λ_=>0) M.size 1) x/\(∀v,pu (λ_=>0) M.size 1 v<=1)/\cw x M.size bg vQ:=λP e=>by
  have hz:=P.size;subst e;refine⟨⟨P.aH _,λv C=>ez V,λv C=>ez (by simp at C;omega)⟩,λv=>?_,cw.push _ _ _⟩;unfold pu;split
  .omega
  .exact eO _
 refine⟨MkL D d p g s,⟨?_,?_⟩,?_⟩
 .refine(cc (J.aA _)).mono ?_;rintro _ G ⟨rfl,u⟩;have z5:=u.size;refine⟨u.dv λv C=>I.lt (N v C),_,rfl,c u V _,c u V _,c u V _,c u V _,c u V _,c u V _,c u V _,c u V _,c u V _,?_,?_⟩
  .refine cl (b:=λ_=>0) ⟨u,λ_ _=>rfl,λ_ _=>rfl⟩ (λ_=>eO _) λH B z y t F Z f z6=>?_;refine⟨f.dv λv C=>u.lt (I.lt (N v C)),_,_,_,_,B,z,y,rfl,c f V _,c f V _,?_⟩;intro L;have w:J t L:=J.push t _;have kb:cw L t.size bg vQ:=cw.push t _ _;refine⟨c w V _,c w V _,c w V _,c w V _,c w V _,c w V _,c w V _,c w V _,c w V _,c w V _,rfl,pu H t.size 1,B,z,y,?_⟩;have Y:J t (ag L t.size 0 [.s d,.s p,.i (bH g),.i s.bI,.i s.value,.i s.bC,.i s.bq,.s B,.s z,.s y]):=w.ag (ad _) _ _;exact F.cQ Y (ad _) (cw.ag (m:=L) (o:=0) kb)
  .intro t;have f:J G t:=J.push G _;have s6:t.size=G.size+1:=by simp[t]
   let⟨B6,ac,kb⟩:=am (x:=t) u rfl;clear_value t;refine⟨c f V _,c f V _,c f V _,c f V _,c f V _,c f V _,c f V _,c f V _,c f V _,c f V _,cl B6 ac λY B z y L Z F w z7=>?_⟩;refine⟨w.dv bJ,_,_,_,_,B,z,y,rfl,c w V _,c w V _,rfl,Y,B,z,y,?_⟩;exact Z.Wj (by rw[F.jc _ V];exact fQ _ _ _) _ (cw.ag (m:=L) (o:=0) (kb.ext w))
 .intro G;have u:J D G:=J.push D _;have s5:G.size=D.size+1:=by simp[G]
  let⟨B5,ac,kb⟩:=am (x:=G) (J.aA D) rfl;clear_value G;refine⟨c u V _,c u V _,c u V _,c u V _,c u V _,c u V _,c u V _,c u V _,c u V _,c u V _,(cc u).mono ?_⟩;rintro _ t ⟨rfl,f⟩;have z6:=f.size;refine⟨f.dv bJ,_,rfl,c f V _,c f V _,c f V _,c f V _,c f V _,c f V _,c f V _,c f V _,c f V _,cl (B5.eY (dz.eT _ f B5.new)) ac λY B z y L Z F w z7=>?_⟩;refine⟨w.dv bJ,_,_,_,_,B,z,y,rfl,c w V _,c w V _,rfl,Y,B,z,y,?_⟩;exact Z.Wj (by rw[F.jc _ V];exact fQ _ _ _) _ (cw.ag (m:=L) (o:=0) (kb.ext (f.trans w)))
 .rintro⟨a,mo⟩ G ⟨rfl,an,o5,h5,f5,Z⟩;simp only[]at Z;have B5:zE an G [Q.size,W.size,h.size]:=λv C=>⟨Z.cv.lt (I.lt (N v C)),Z.jA v (I.lt (N v C))⟩;have iy:∀{f:Nat}{t:E},ap g A s=ap g f s->(∃H o6 F w,qA D H t a bg (IB d p (bH g) (ap g f s) o6 F w) o6 F w (ap g f s).aW (ap g f s).heap (ap g f s).av)->
   ∃v0:Int,af t a (0+3)=some (vi v0)/\∃v1:Int,af t a (0+3+1)=some (vi v1)/\∃v2:Int,af t a (0+3+2)=some (vi v2)/\∃v3:Int,af t a (0+3+3)=some (vi v3)/\
   ∃v4:O,af t a (0+3+4)=some (O.v v4)/\∃v5:O,af t a (0+3+5)=some (O.v v5)/\∃v6:O,af t a (0+3+6)=some (O.v v6)/\
   Xt h ⟨ap g A s,true⟩ (.tuple #[.agg #[vi v0,vi v1,vi v2,vi v3,O.v v4,O.v v5,O.v v6],vb true]) (ag t Q.size 0 [.i v0,.i v1,.i v2,.i v3,.s v4,.s v5,.s v6]):=λ{f t} e⟨H,o6,F,w,u⟩=>by
   rw[e]
   exact⟨_,u.box.bU 3,_,u.box.bU 4,_,u.box.bU 5,_,u.box.bU 6,o6,u.box.bU 7,F,u.box.bU 8,w,u.box.bU 9,H,o6,F,w,rfl,u.aah.box X4 V V _ _⟩
  refine⟨λK M=>∃f:Nat,K=f/\f<=A/\∃H o6 F w,qA D H M a bg (IB d p (bH g) (ap g f s) o6 F w) o6 F w (ap g f s).aW (ap g f s).heap (ap g f s).av,λK _=>((A:Int) -K).toNat,⟨0,rfl,eO _,an,o5,h5,f5,Z⟩,?_⟩;rintro K t ⟨f,rfl,hk,H,o6,F,w,u⟩;have av:=wZ f U;have ac:=rS f U ak V;have B6:zE H t [Q.size,W.size,h.size]:=λv C=>⟨u.cv.lt (I.lt (N v C)),u.jA v (I.lt (N v C))⟩;refine⟨λh7=>⟨_,u.box.bU 3,λh8=>?_,λh8=>?_⟩,λh7=>?_⟩
  .simp only[aq]at h7;refine(Ge u (k.ext X4) av ac.Dq (oh ac.heap) (oh ac.aW)).mono ?_;rintro _ L ⟨Y,o7,ar,f7,L7,t7⟩;have e:cR ((f:Int)+1)=((f+1:Nat):Int):=kW (n:=A) V V;rw[e];refine⟨t7.dL B6,⟨f+1,rfl,V,Y,o7,ar,f7,by rw[oT];exact L7⟩,?_⟩;show((A:Int) -((f+1:Nat):Int)).toNat<((A:Int) -(f:Int)).toNat;omega
  .simp at h8;refine iy ?_ ⟨H,o6,F,w,u⟩;have T:A=f+(A -f):=V;rw[T,IV,ou _ h8]
  .simp only[bD]at h7;have:f=A:=V;subst this;exact iy rfl ⟨H,o6,F,w,u⟩
end
end
section
section
variable{b:E}{d p:O}{a:cg}
def DW(t:eW b d p a)(k:iE a){bq:Int}(A:0<=bq/\bq<=40):aM cq 28 [.agg #[O.v d,O.v p],vi bq] b λE u=>∃c,E=.tuple #[UW (cA a bq) .nil .nil c,vb true]/\gQ u .nil .nil c (cA a bq)/\J b u:=by
 apply yL;simp -zeta only[aC,aB];intro e l;have P:e.size=b.size+1:=by simp[e]
 have C:cw l e.size fU [.i 0,.i 0,.i 0,.i 0,.s .nil,.s .nil,.s .nil]:=cw.push e _ _;let⟨v,j⟩:=dP (a:=e) (c:=l) rfl rfl;clear_value l;refine(oL (t.ext v)).aK (J.aA _) j λg M i f _=>⟨g,rfl,λh=>absurd k (nb i h),λ_=>⟨λh=>by simp at h;omega,λ_=>⟨λh=>by simp at h;omega,λ_=>?_⟩⟩⟩;have q:=v.trans f;have I:=f.size;have G:=j e.size aL;refine(lV (t.ext q) k bq).mono λ_ n⟨c,y,w,b1,b2,b3,b4,K,z,N,F,B⟩=>⟨w.dv (λg i=>f.lt (j g i)),_,_,_,_,.nil,.nil,c,y,?_⟩;have H:=N.lo;intro D;have x:=N.box q (nb:=e.size) V V 0 [.i 3,.i 0,.i 0,.i bq,.s .nil,.s .nil,.s c];have kb:cw D e.size fU ([]++[.i 3,.i 0,.i 0,.i bq,.s .nil,.s .nil,.s c]):=cw.ag (m:=n) (o:=0) (r:=[.i 3,.i 0,.i 0,.i bq,.s .nil,.s .nil,.s c]) (C.ext (f.trans w));have Q:(ag n e.size 0 [.i 3,.i 0,.i 0,.i bq,.s .nil,.s .nil,.s c]).size=n.size:=aw _ _ _ _;have L:=NZ z x V (B.congr (bo _ _ _ _ V)) V kb;exact⟨c,rfl,L.Gp (s:=cA a bq) ((BE k A).kU (rR a bq) V),L.cv⟩
end
end
section
variable{c d:lO}
section
variable{a:cg}{s:St}
def Qw(c:lO)(b:Int)(a:Bool):(vj c b a).ap=c.ap:=by
 unfold vj;repeat' split
 all_goals rfl
def Hd(b:St):∀k:Nat,(gV a b k).ap=k
 |0=>rfl
 |k+1=>by
  have:=Hd b k;simp only[gV,Nq,So];split
  .rw[Qw];simp only[];omega
  .simp only[];omega
def Bd(c d:lO):Prop:=c.mQ<=d.mQ/\c.depth<=d.depth/\c.ft<=d.ft
def Wm{a b:Int}:a<=mx a b:=by unfold mx;split<;>omega
def XJ(h:Bd c d)(s:St):Bd c (So d s):=⟨ue h.1 Wm,ue h.2.1 Wm,ue h.2.2 (Kx _ _)⟩
def N3(b:St)(j:Nat):∀n,Bd (gV a b j) (gV a b (j+n))
 |0=>⟨cY _,cY _,cY _⟩
 |n+1=>by
  have h:=N3 b j n;show Bd _ (Nq a (ap a (j+n) b) (gV a b (j+n)));unfold Nq;simp only[];refine XJ ?_ _;split
  .let⟨d,e,c⟩:=RG {gV a b (j+n)with ap:=(gV a b (j+n)).ap+1} (nv a (ap a (j+n) b)).op (rm a (ap a (j+n) b));unfold Bd;rw[d,e,c];exact h
  .exact h
def Ol.up(h:Ol c s)(b:Bd c d):Ol d s:=⟨ue h.mQ b.1,ue h.depth b.2.1,Pf _ _ λe a=>ue (IZ _ _ h.ft e a) b.2.2⟩
def Uy{bq:Int}(f:iE a)(g:0<=bq/\bq<=40):∃k:Nat,k<=100000/\1<=k/\(om a bq).ap=k/\(ap a k (cA a bq)).bI≠3/\(∀j,j<k->(ap a j (cA a bq)).bI=3)/\
 ∀j,j<=k->Ol (om a bq) (ap a j (cA a bq)):=by
 let⟨k,c,b,d⟩:=K6 a (cA a bq) 100000 (by have:=(Sr f g).2.2;rwa[IW]at this)
 rw[BG c b d]
 refine⟨k,c,?_,Hd _ k,b,d,λj h=>?_⟩
 .cases k with
  |zero=>exact absurd rfl b
  |succ k=>omega
 .have e:k=j+(k -j):=V
  rw[e]
  exact(Jy a _ j).up (N3 _ j _)
end
end
section
section
variable{m:E}{s t:O}
end
end
section
section
variable{f:Nat->Bool}
end
section
variable{m:E}{d p aW b a:O}{c:cg}{s:St}
end
end
section
section
variable{a:cg}{s:St}{f:aU}{x:Instr}{aR:List Int}{b:List aU}
section
variable(h:db a s)(e:s.bI=3)(c:(mh a s).bI=3)(d:s.av=b++[f])
include h e c d
end
end
end
section
section
variable{m:E}{a:O}{h:List bO}
def FU(f:dF m a h)(d:U6 h)(g:h.length<=1000000000):dR cq 45 [O.v a] m (KD h):=by
 apply Ab;exact(sI f d g).mono λ_ i⟨s,b,e,c,_,x⟩=>⟨s,b,e,b,rfl,c,x⟩
def FT(b:dF m a h)(k:U6 h)(c:h.length<=1000000000)(n:KD h):vm cq 22 [O.v a] m (vi (iz h)):=by
 apply zZ;refine(FU b k c).mono λ_ q⟨d,e,j,x⟩=>⟨d,e,λi=>absurd n (nb j i),λ_=>?_⟩;exact(uP (yJ.ext ⟨b.len,λp o l=>let⟨f,_,g,g1,g2⟩:=dF.aG b l;⟨f,g,g1,g2⟩⟩ x) c).mono λ_ g⟨e,f⟩=>⟨_,e,rfl,x.trans f⟩
end
section
variable{a:cg}{s:St}
end
section
variable{m:E}
end
end
section
section
open Tryz
variable{m:E}{R:Value->E->Prop}
def ur(a:O):=cZ m R ⟨[(13,[(13,.I)])],[(10,[(11,.P),(12,.T)])],[(10,[121,119,117,115]),(13,[121,119,117,115])]⟩ [a] func11
end
section
variable{a:E}
def laws_FnStatsOfState_ok{cX:O}(h:Fu a cX):aM cq 11 [O.v cX] a (LwR a):=by
 apply ur;simp(config:={maxSteps:=1000000}) -zeta only[aC,aB];refine⟨λ_=>⟨rfl,J.aA _⟩,λan=>?_⟩;refine(Er h).mono λ_ t⟨ab,ah,b,k,g,R,x1⟩=>⟨ab,ah,k,g,?_⟩;have x:eW t ab ah b:=⟨R.bn.le (bG _ _),jz.le (bG _ _) R.cC⟩;intro m2 I;have x3:J t I:=(J.push t _).ag (ad _) _ _;have z3:I.size=t.size+1:=by simp[I,m2,aw]
 clear_value I;refine(JJ (x.ext x3) k).mono λ_ z⟨g,Y⟩=>⟨Y.dv bJ,_,_,_,_,_,_,_,_,_,g,?_⟩;intro m5 K;have x6:J z K:=(J.push z _).ag (ad _) _ _;have z6:K.size=z.size+1:=by simp[K,m5,aw]
 clear_value K;have z4:=Y.size;have X6:=(x3.trans Y).trans x6;refine(JN (x.ext X6) k).mono λ_ A⟨g,Z⟩=>⟨Z.dv bJ,_,_,_,_,_,_,_,_,_,g,?_⟩;intro m8 C;have x9:J A C:=(J.push A _).ag (ad _) _ _;have z9:C.size=A.size+1:=by simp[C,m8,aw]
 clear_value C;have z7:=Z.size;have G:∀f∈[A.size,z.size,t.size],f<C.size:=bJ;refine(tE (qx b k).c).aK (J.aA _) G λaz U _=>⟨_,rfl,?_⟩;have P:=((X6.trans Z).trans x9).trans U;refine⟨sx,λ_=>⟨sx,λ_=>⟨λi=>?_,λhy=>?_⟩⟩⟩
 .refine(tE (qx b k).c).aK U G λd c _=>⟨_,rfl,λ_=>⟨aL,(x1.trans P).trans c⟩,sx⟩
 let⟨v,al⟩:=XN (a:=b) (bq:=k) (by simpa using hy);rw[al];let⟨p,n1,n2,n3,n4,n5,n6⟩:=Uy v.1 v.2;have vQ:=U.size;refine(DW (x.ext P) v.1 v.2).mono λ_ H⟨fs,g,hs,W⟩=>⟨W.dv bJ,_,_,_,_,.nil,.nil,fs,true,g,?_⟩;intro ar d;have X:J H d:=(J.push H _).ag (ad _) _ _;have aD:d.size=H.size+1:=by simp[d,ar,aw]
 clear_value d;have aA:=W.size;have Q:=(P.trans W).trans X;have L:=BE v.1 v.2;have ai:∀{c:Nat},c<=100000->LO b (cA b k) c=⟨ap b c (cA b k),true⟩:=λF=>aj ⟨L,V,V⟩;have ax:∀{c:Nat},c<=100000->db b (ap b c (cA b k))/\Sm c (ap b c (cA b k))/\DP (ap b c (cA b k)):=λ{c} F=>have h:=wZ c L;have aa:=rS c L (rR b k) V;⟨h,by simpa using aa,h.kU aa V⟩;have sf:=L.YR (rR b k) V;have e1:(om b k).ap=(p:Int):=n3;simp only[bD]at an;have e3:cR ((cX.len:Int)*11)=((cX.len*11:Nat):Int):=by rw[aP V V];rfl
 have e4:cR ((p:Int)+1)=((p+1:Nat):Int):=by rw[aP V V];rfl
 have F:cX.len*11%(p+1)<=p:=by have:=Nat.mod_lt (cX.len*11) (y:=p+1) V;omega
 rw[e1,e3,e4,show Int.tmod ((cX.len*11:Nat):Int) ((p+1:Nat):Int)=((cX.len*11%(p+1):Nat):Int)from rfl];generalize cX.len*11%(p+1)=c at F;let⟨ag,S,ak⟩:=ax (c:=c) V;have T:=n6 c F;refine⟨λD ae M=>ae=true/\J d M/\∃e h ac,gQ M e h ac (ap b c (cA b k))/\af M D.1 (D.2+5)=some (O.v h)/\af M D.1 (D.2+6)=some (O.v ac),⟨V,?_,?_⟩,?_⟩
 .have w:=wa (x.ext Q) (hs.ext X) sf (by simp[cA]) (c:Int);rw[ai V]at w;refine w.mono λ_ l⟨am,u,r,q,g,NB⟩=>⟨NB.bs.cv.dv bJ,_,_,_,_,u,r,q,_,g,?_⟩;have E:=NB.bs.cv;have uB:=E.size;intro b1;have xb:=J.push l (.cells (bA [.i 0,.i 0,.i 0,.i 0,.s O.nil,.s O.nil,.s O.nil]) fU);have kl:∀{f:Nat}(e:Nat),f<l.size->af b1 f e=af l f e:=λe h=>aJ (xb.same _ h) e;refine⟨kl _ V,kl _ V,kl _ V,kl _ V,kl _ V,kl _ V,kl _ V,kl _ V,kl _ V,kl _ V,?_⟩;intro b2;have N:J l b2:=xb.ag (ad _) _ _;have B:cw b2 l.size fU _:=cw.ag (m:=l) (o:=0) (cw.push l _ _);exact⟨rfl,E.trans N,u,r,q,(NB.Gp ak:gQ l u r q (ap b c (cA b k))).ext N,B.bU 5,B.bU 6⟩
 .intro b1;have xb:J d b1:=J.push d _;have kl:∀{f:Nat}(e:Nat),f<d.size->af b1 f e=af d f e:=λe h=>aJ (xb.same _ h) e;refine⟨kl _ V,kl _ V,kl _ V,kl _ V,kl _ V,kl _ V,kl _ V,kl _ V,kl _ V,kl _ V,?_⟩;have w:=wa (x.ext (Q.trans xb)) (hs.ext (X.trans xb)) sf (by simp[cA]) (c:Int);rw[ai V]at w;have yb:b1.size=d.size+1:=by simp[b1]
  have B1:cw b1 d.size fU [.i 0,.i 0,.i 0,.i 0,.s O.nil,.s O.nil,.s O.nil]:=cw.push d _ _;refine w.mono λ_ l⟨am,u,r,q,g,NB⟩=>⟨NB.bs.cv.dv bJ,_,_,_,_,u,r,q,_,g,?_⟩;have E:=NB.bs.cv;intro b2;have N:J d b2:=(xb.trans E).ag (ad _) _ _;have B:cw b2 d.size fU _:=cw.ag (m:=l) (o:=0) (B1.ext E);exact⟨rfl,N,u,r,q,pG.Gp (s:=ap b c (cA b k)) (NB.box xb (ad _) V _ _) ak,B.bU 5,B.bU 6⟩
 rintro D ae M ⟨rfl,B,e,u,f',q,r,g6⟩;have lh:=q.heap.len;have lf:=q.av.len;have G:∀f∈[H.size,A.size,z.size,t.size],f<d.size:=bJ;refine⟨sx,λ_=>⟨sx,λ_=>⟨u,r,?_⟩⟩⟩;refine(FT q.heap (ag.YR S V).heap (oh S.heap) (QV ag).heap).aK B G λmC w uC=>⟨_,rfl,aJ (w.same _ (oh B.size)) _,?_⟩;have s1:=T.mQ;have s2:=T.depth;refine⟨λi=>by simp only[aq]at i;exact absurd s1 (Int.not_le.2 i),λ_=>⟨f',w.af g6,λi=>by simp only[aq]at i;rw[lf]at i;exact absurd s2 (Int.not_le.2 i),λ_=>?_⟩⟩;refine fm (n:=(ap b c (cA b k)).heap.length) (oh S.heap) (λ_ E=>J M E) w ?_;rintro ao E ay μ R l av
 refine⟨u,l.af r,λh1=>?_,λ_=>⟨rfl,((x1.trans Q).trans B).trans l⟩⟩;simp only[aq]at h1;let⟨am,N⟩:=cK ((ap b c (cA b k)).heap) ao;obtain⟨_,_,z1,-,-⟩:=dF.aG (dF.ext l q.heap) N;have s3:=IZ _ _ T.ft am (au N);exact⟨u,l.af r,V,V,_,z1,λi=>by simp only[aq]at i;exact absurd s3 (Int.not_le.2 i),λ_=>av V _ l⟩
end
end
end Go.Proofs.YtkoifinbblcbiaaGreat
section
namespace Go.Vc
variable{t:TypeId}{a:Addr}
open Go.ChangeShapes Go.WideShapes Go.RowKit
section
variable{H:Type}{b:TypeId×Value->H}{P:Program}{w:World}
def TE(b:TypeId×Value->H)(P:Program)(w:World)(t:TypeId)(Q:List Ce->Prop):Prop:=
 ∀(n:Nat)(a:List Value)(x:DataW H×List MemPlace),DataW.trod b P w 0 (λ_=>true) true n t a=some x->∃c,a=c.map Ce.v/\Q c
def TE.mono{Q Q':List Ce->Prop}(h:TE b P w t Q)(f:∀a,Q a->Q' a):TE b P w t Q':=λn a x g=>
 let⟨c,d,e⟩:=h n a x g
 ⟨c,d,f _ e⟩
def SE{v:Value}(h:w.cell? a=some v):a.spot=none:=by
 unfold World.cell? at h;split at h
 .split at h
  .cases h
  .rename_i b;simpa using b
 .cases h
def SC(h:a.spot=none)(i:Nat):a.add i=⟨a.block,a.off+i,none⟩:=by
 obtain⟨c,o,s⟩:=a;simp only at h;subst h;unfold Addr.add;by_cases b:i=0
 .subst b;simp
 .simp[b]
end
section
variable{H:Type}{b:TypeId×Value->H}{P:Program}
def DG(l:laidOutB P=true){W j:World}(k:Below W.heap.size W j):∀{f:List TypeId}{i:List Value}{g:List (DataW H)}{d:List MemPlace},
 (f.all λt=>P.readableRec t&&decide (t<P.types.size))=true->DataW.TrodAll b P W 0 (λ_=>true) true f i g d->(∀x∈d,x.block<W.heap.size)->∀e:Nat->Bool,(∀p∈d,e p.block=true)->
 DataW.TrodAll b P j 0 e true f i g d
 |[],_,_,_,_,h,_,_,_=>by
  obtain⟨rfl,rfl,rfl⟩:=trodAll_nil h;exact trodAll_mk0
 |t::f,_,_,_,c,h,m,e,n=>by
  obtain⟨v,i,s,g,p,r,rfl,rfl,rfl,o,q⟩:=trodAll_cons h;simp only[Oe,bN,aq]at c;exact⟨p,r,WideElems.Trod_stays l c.1.1 c.1.2 o (λx a=>k.same (m x (by simp[a]))) (λx a=>n x (by simp[a])),DG l k (by simpa using c.2) q (λx a=>m x (by simp[a])) e (λx a=>n x (by simp[a])),rfl⟩
def MZ{f:Func}{s:ChangeSpec}{W g:World}{i:Array Value}{d:List (DataW H)}{o:List MemPlace}
 (J:laidOutB P=true)(L:(f.params.toList.all λt=>P.readableRec t&&decide (t<P.types.size))=true)(z:f.resultTypes=#[t])(v:P.underlying t=some .bool)(B:s.vars=[])
 (j:DataW.Whole b P f.params.toList s.vars false W i.toList d [] o)(F:(s.fn H (d++[])).args=d)(G:(s.fn H (d++[])).results=[.lit (.bool true)])(I:(s.fn H (d++[])).vars=[])
 (k:Below W.heap.size W g):s.post b P f false true false false W i (.bool true) g:=by
 have h:∀a∈o,a.block<W.heap.size:=λa l=>by simpa using j.lt a l
 have r:=j
 obtain⟨a,N,E,q,rfl,C,M⟩:=j
 rw[B]at q
 obtain⟨_,rfl⟩:=trodVars_none q
 simp only[dO]at h C r
 have u:∀c:Nat->Bool,(∀x∈a,c x.block=true)->DataW.TrodAll b P g 0 c true f.params.toList i.toList (s.fn H (d++[])).args a:=λc K=>by
  rw[F];exact DG J k L E h c K
 have A:∀c:Nat->Bool,DataW.TrodVars b P g c s.vars (s.fn H (d++[])).vars []:=λc=>by rw[B,I];rfl
 have y:∀(e:Nat)(c:Nat->Bool)(hd:Bool),DataW.TrodAll b P g e c hd f.resultTypes.toList ((Value.bool true).resultList f.resultTypes.size) (s.fn H (d++[])).results []:=λe c hd=>by
  rw[G,z];exact trodAll_cons_mk (shut_bool v _) trodAll_mk0
 refine⟨d,[],a,[],a,[],r,y _ _ _,u _ (λx m=>by simpa using h x m),A _,k.frame _,λ_=>?_⟩
 refine⟨ok_one z rfl (okWide_bool_mk v _),_,_,([]++a)++[],⟨[]++a,[],trodAll_append (u _ (λ_ _=>rfl)) (y _ _ _),A _,rfl,?_,λD=>by cases D⟩,?_⟩
 .intro e n l
  have w:MemPlace.cell e n∈a:=by simpa using l
  rw[k.frozen (p:=⟨e,n,none⟩) (h _ w)]
  exact C e n w
 .intro x m _
  simpa using m
end
end Go.Vc
end
section
namespace Go.Proofs.YtkoifinbblcbiaaGreat
open Go.Vc Go.ChangeShapes
def SW{H:Type}{x:TypeId×Value->H}{P:Program}{w:World}{t e r:Nat}{v:Value}{u:DataW H}{I:List MemPlace}(p:P.underlying t=some (.slice e))(B:P.underlying e=some (.int .u8))(A:P.cellsOf e=1)
 (E:Value.okWide P w .any r t v)(y:DataW.Trod x P w 0 (λ_=>true) true t v u I):∃s,v=O.v s/\Fu w.heap s:=by
 obtain⟨J,q,h,rfl⟩:=Go.WideShapes.okWide_slice p E
 obtain⟨L,C⟩:=y
 rcases open_ints p B A C with⟨b,_⟩|⟨d,N,K,g,b,_,D,M,G,_,l,F⟩
 .simp[Value.cells]at b
  obtain⟨rfl,rfl,rfl⟩:=b
  exact⟨.nil,rfl,ad _,λk a=>by simp at a⟩
 .simp[Value.cells]at b
  obtain⟨rfl,rfl,rfl⟩:=b
  simp only[MI]at G
  rcases j8 h with i|i
  .subst i
   have:q=0:=V
   subst this
   obtain⟨c,o,s⟩:=d
   cases s with
   |none=>exact⟨.mk c o 0 0,rfl,ad _,λk a=>by simp at a⟩
   |some f=>exact⟨.zT c o f,rfl,ad _,λk a=>by simp at a⟩
  .have z:=l 0 V
   have n:d.spot=none:=by
    have:=SE z;simpa[Addr.add]using this
   obtain⟨c,o,s⟩:=d
   simp only at n
   subst n
   refine⟨.mk c o q h,rfl,D,λk a=>?_⟩
   simp only[O.iS]at a
   have m:k<g.length:=V
   have j:=l k m
   have f:=F (g.getD k 0) (by rw[fR,List.getElem?_eq_getElem m];simp)
   rw[Lit.wf,bN,aq,aq]at f
   refine⟨g.getD k 0,f.1,f.2,?_⟩
   .rw[SC rfl,zQ]at j
    simpa using j
end Go.Proofs.YtkoifinbblcbiaaGreat
end
