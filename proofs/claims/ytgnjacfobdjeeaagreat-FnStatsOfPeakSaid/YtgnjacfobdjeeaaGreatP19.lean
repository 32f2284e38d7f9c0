/- Part of a proof, joined by a program. -/
import Derived.Carry
import Derived.ChangeSame
import Derived.ChangeSlices
import Derived.Deep.Slices
import Derived.OpenShut
import Derived.RowKit
import Derived.WideShapes
import Derived.Test.YtgnjacfobdjeeaaGreatP01
import Derived.Test.YtgnjacfobdjeeaaGreatP02
import Derived.Test.YtgnjacfobdjeeaaGreatP11
import Derived.Test.YtgnjacfobdjeeaaGreatP13
import Derived.Test.YtgnjacfobdjeeaaGreatP16
import Derived.Test.YtgnjacfobdjeeaaGreatP17
import Derived.Test.YtgnjacfobdjeeaaGreatP18
set_option linter.unusedVariables false
set_option linter.unusedSimpArgs false
set_option linter.defProp false
set_option linter.constructorNameAsVariable false
set_option maxHeartbeats 8000000
set_option maxRecDepth 100000
namespace Go.Proofs.YtgnjacfobdjeeaaGreat
open Go.Vc
section
variable{q:O}
structure Mv(n:Nat)(ro:Nat->Nat)(M:J)(ro':Nat->Nat)(M':J):Prop where
 size:M.size<=M'.size
 dO:∀b,b<M.size->n<=b->M'[b]? =M[b]?
 jU:∀b,b<M.size->ro' b=ro b
 new:∀b,M'.size<=b->ro' b=0
 iY:∀b,b<n->ro b=0
section
variable{n:Nat}{a c:Nat->Nat}{M b:J}
def iD.mv{e f k:Nat}{s:O}{l:List Ce}(h:iD a M e f k s l)(v:Mv n a M c b)(g:k≠0):iD c b e f k s l:=
 h.dO (λd=>v.dO _ (h.E d).1 (uL λe=>g (by rw[<-(h.E d).2];exact v.iY _ e))) λd=>v.jU _ (h.E d).1
def dH.mv{i:O}{h:List bQ}(q:dH n a M i h)(v:Mv n a M c b):dH n c b i h:=by
 obtain⟨l,j,a2,a3⟩:=q;refine⟨l,j.mv v bh,a2.mono λs r⟨o,m,f,g⟩=>⟨o,m,gR f λd=>v.dO _ (iB f d) (g d).2.1,λd=>?_⟩,a3⟩;obtain⟨g1,g2,k,tail,p,e⟩:=g d;exact⟨(v.jU _ e.lt).trans g1,g2,k,tail,p,e.congr (v.dO _ e.lt g2)⟩
def Sy.mv{i:Nat}{d:List Ce}{f:aW}(v:Mv n a M c b):Sy a M i d f->Sy c b i d f:=λ⟨r,o,k,j,e,g,h⟩=>⟨r,o,k,j,e.mv v V,g.mv v V,h.mv v V⟩
def sa.mv{e:O}{g:List aW}{f:aW}{r o h:O}{d:List (List Ce)}(T:sa a M e g f r o h d)(v:Mv n a M c b):sa c b e g f r o h d:=
 ⟨T.p7.mv v bh,T.len,T.size,λm i j k l=>(T.dz m i j k l).mv v,T.ao.mv v V,T.aQ.mv v V,T.br.mv v V⟩
def oJ.mv{d:O}{e:List aW}(l:oJ a M d e)(v:Mv n a M c b):oJ c b d e:=by
 obtain⟨g,h⟩:=l;exact⟨g,h.p7.mv v bh,h.len,h.size,λm f i j k=>(h.dz m f i j k).mv v⟩
def sa.put{c:O}{b:List aW}{f g:aW}{s o p n m j:O}{h:List (List Ce)}(T:sa a M c b f s o p h)(w:∀d,M.size<=d->a d=0){i:Nat}(x:i<6){d:Ce}
 (v:iK [.i f.eu,.i f.pc,.i f.dst,.s s,.s o,.s p] i [d]=[.i g.eu,.i g.pc,.i g.dst,.s n,.s m,.s j])(t:iD a M aI 1 (10+3*b.length) n (g.ao.map Ce.i))(q:iD a M aI 1 (11+3*b.length) m (g.aQ.map Ce.i))(r:iD a M aI 1 (12+3*b.length) j (g.br.map Ce.i)):
 dZ M c.E (c.off+b.length*6+i) 1/\sa a (ah M c.E (c.off+b.length*6+i) [d]) c b g n m j h/\eC (λk=>4<=k/\k≠9) a M a (ah M c.E (c.off+b.length*6+i) [d]):=by
 have u:=T.E
 have e:eC (λk=>k=4) a M a (ah M c.E (c.off+b.length*6+i) [d]):=eC.ah w u.1 _ _
 have l:h.flatten.length=b.length*6:=by rw[df T.size,T.len]
 refine⟨by rw[dQ];exact T.p7.wr (by simp only[a8,l,aZ,eG];omega),⟨?_,T.len,T.size,T.xp e λk q r=>V,t.gC e V,q.gC e V,r.gC e V⟩,e.mono λk y=>V⟩
 have:=T.p7.set (o:=b.length*6+i) (new:=[d]) (by simp[l];omega)
 rw[kQ _ _ _ _ V,l,Fw,v]at this
 rw[dQ];exact this
end
structure SO(n:Nat)(ro:Nat->Nat)(M:J)(bd hp fr:O)(s:St):Prop where
 le:n<=M.size
 iY:∀b,b<n->ro b=0
 new:∀b,M.size<=b->ro b=0
 bd:iD ro M aI 1 2 bd (s.bd.map Ce.i)
 heap:dH n ro M hp s.heap
 aA:oJ ro M fr s.aA
structure FS(s:St):Prop where
 IN:Q9 s
 lI:I7 s
 lo:s.bd.length<=1000000/\s.heap.length<=1000000
section
variable{n:Nat}{a e:Nat->Nat}{M b:J}{bd d c:O}{s:St}
def SO.of(N:uf (M.extract 0 n) a M bd d c s)(h:n<=M.size):SO n a M bd d c s:=⟨h,λb e=>N.bs.iY b (by rw[nC h];exact e),N.bs.new,N.bd,by have:=N.heap;rwa[nC h]at this,N.aA⟩
def SO.mv(w:SO n a M bd d c s)(v:Mv n a M e b):SO n e b bd d c s:=⟨bX w.le v.size,λf g=>(v.jU f (aO g w.le)).trans (w.iY f g),v.new,w.bd.mv v bh,w.heap.mv v,w.aA.mv v⟩
def SO.ZP(w:SO n a M bd d c s){h:Nat}(f:Fz [h] M b)(j:h<n):Mv n a M a b:=⟨f.size,λe g i=>f.same e g bR,λ_ _=>rfl,λe g=>w.new e (bX f.size g),w.iY⟩
def SO.gC{p:Nat->Prop}(w:SO n a M bd d c s)(C:eC p a M e b):n<=b.size/\(∀f,f<n->e f=0)/\∀f,b.size<=f->e f=0:=⟨bX w.le C.size,λf g=>(C.jU f (aO g w.le)).trans (w.iY f g),C.new⟩
def SO.box(w:SO n a M bd d c s){b:Nat}(g:a b=1)(o:Nat)(l:List Ce):SO n a (ah M b o l) bd d c s:=by
 have C:eC (λk=>k=1) a M a (ah M b o l):=eC.ah w.new g _ _;obtain⟨e,b,f⟩:=w.gC C;exact⟨e,b,f,w.bd.gC C bh,w.heap.gC C bh bh,w.aA.gC C λk h=>V⟩
def SO.J0(w:SO n a M bd d c s)(C:eC (λk=>k=2) a M e b){l:List Int}(A:iD e b aI 1 2 q (l.map Ce.i)):SO n e b q d c {s with bd:=l}:=
 let⟨f,g,h⟩:=w.gC C
 ⟨f,g,h,A,w.heap.gC C bh bh,w.aA.gC C λk i=>V⟩
def SO.fS(w:SO n a M bd d c s)(C:eC (λk=>k=3) a M e b){h:List bQ}(A:dH n e b q h):SO n e b bd q c {s with heap:=h}:=
 let⟨f,g,i⟩:=w.gC C
 ⟨f,g,i,w.bd.gC C bh,A,w.aA.gC C λk j=>V⟩
def SO.jb(w:SO n a M bd d c s)(C:eC (λk=>4<=k/\k≠9) a M e b){l:List aW}(A:oJ e b q l):SO n e b bd d q {s with aA:=l}:=
 let⟨f,g,h⟩:=w.gC C
 ⟨f,g,h,w.bd.gC C bh,w.heap.gC C bh bh,A⟩
def SO.JP(w:SO n a M bd d c s)(h:I7 s):gG M bd d c s:=⟨w.bd.nu (by have:=h.bd;omega),w.heap.cells (by have:=h.heap;omega),w.aA.JP (by have:=h.depth;omega) h.aA⟩
end
end
section
variable{K:Int->J->Prop}{p:Nat->Prop}
def SP(n h:Nat)(f:O)(g:J)(P:Nat)(v:Value)(a:J):Prop:=∃bd e d s,v=ZR s bd e d/\(∀c,a.size<=c.size->(∀b,b<a.size->n<=b->c[b]? =a[b]?)->gG c bd e d s)/\Q9 s/\(s.bd.length<=1000000/\s.heap.length<=1000000)/\Rs h f g P a
structure SQ(n rb:Nat)(bs:O)(ma:J)(k1 k2 Q:Nat)(ro:Nat->Nat)(M:J)(bd hp fr:O)(s:St):Prop where
 w:SO n ro M bd hp fr s
 r:Rs rb bs ma Q M
 k1:ro k1=1/\k1<M.size/\n<=k1
 k2:ro k2=1/\k2<M.size/\n<=k2
 fs:FS s
section
variable{n a d e Q q P l:Nat}{f bd i h:O}{c M b:J}{j m:Nat->Nat}{s o:St}{L:List Nat}
def SQ.fz(g:SQ n a f c d e Q j M bd i h s)(l:a<n)(k:Fz [a] M b)(r:Rs a f c q b):SQ n a f c d e q j b bd i h s:=
 ⟨g.w.mv (g.w.ZP k l),r,⟨g.k1.1,aO g.k1.2.1 k.size,g.k1.2.2⟩,⟨g.k2.1,aO g.k2.2.1 k.size,g.k2.2.2⟩,g.fs⟩
def SQ.ext(g:SQ n a f c d e Q j M bd i h s)(k:a<n)(x:N M b):SQ n a f c d e Q j b bd i h s:=g.fz k (x.fz _) (g.r.ext x)
def SQ.fW(k:SQ n a f c d e Q j M bd i h s)(q:a<n)(o:∀g∈L,g=d\/g=e)(m:Fz [a] M b):dR L M b:=m.dv λg p=>by
 have:=k.k1;have:=k.k2;rcases o g p with l|l<;>simp only[nk]<;>omega
def SQ.gk(g:SQ n a f c d e Q j M bd i h s)(l:a<n)(k:Fz [a] M b)(o:Nat):af b e o=af M e o:=aM (k.same _ g.k2.2.1 (by have:=g.k2;simp only[nk];omega)) o
def SQ.done(g:SQ n a f c d e Q j M bd i h s)(v:Rd a f l c)(C:c.size<=n)(x:Q<=P){q m o r:Int}(A:O2 o)(p:List Ce):SP n a f c P (.agg #[vi q,vi m,vi o,vi r,O.v bd,O.v i,O.v h]) (ah M d 0 p):=by
 have w:=g.w.box g.k1.1 0 p;have u:=g.r.put v (k:=d) (by have:=g.k1;omega) 0 p;exact⟨bd,i,h,⟨q,m,o,r,s.bd,s.heap,s.aA⟩,rfl,λb z B=>have t:=(w.mv ⟨z,B,λ_ _=>rfl,λm y=>w.new m (bX z y),w.iY⟩).JP g.fs.lI;⟨t.bd,t.heap,t.aA⟩,⟨A,g.fs.IN.heap,g.fs.IN.aA,g.fs.IN.lh,g.fs.IN.lf,g.fs.IN.lr⟩,g.fs.lo,u.f,u.r.mono x⟩
def SQ.box(b:SQ n a f c d e Q j M bd i h s)(k:Rd a f l c)(m:c.size<=n)(o:Nat)(g:List Ce):SQ n a f c d e Q j (ah M e o g) bd i h s:=
 ⟨b.w.box b.k2.1 o g,b.r.put k (by have:=b.k2;omega) o g,by rw[ay];exact b.k1,by rw[ay];exact b.k2,b.fs⟩
def SQ.jZ(p:SQ n a f c d e Q j M bd i h s)(l:a<n)(u:Q<=10000000000000000)(r:∀g∈L,g=d\/g=e)(g:List Int){k:List Ce}{m:Nat}(w:k=g.map Ce.i)(v:m=g.length)(z:0<g.length/\g.length<=100)
 (y:∀t b,t∈g->SQ n a f c d e (Q+1) j b bd i h s->Fz [a] (M.push (.cells (bC k) aI)) b->K t b):aL cp 84 [vp a 0,O.v (.mk M.size 0 m m)] (M.push (.cells (bC k) aI)) λC b=>dR L (M.push (.cells (bC k) aI)) b/\∃t:Int,C=vi t/\K t b:=
 have x:=N.push M (.cells (bC k) aI)
 (Cs p.r u g w v z).mono λ_ b⟨t,q,A,B,o⟩=>⟨(p.ext l x).fW l r o,t,q,y t b A ((p.ext l x).fz l o B) o⟩
def SQ.pick(k:SQ n a f c d e Q j M bd i h s)(m:a<n)(q:Q<=10000000000000000)(p:∀g∈L,g=d\/g=e)(l:Int)
 (r:∀t b,0<=t->(t<l\/t=0)->SQ n a f c d e (Q+1) j b bd i h s->Fz [a] M b->K t b):aL cp 81 [vp a 0,vi l] M λw b=>dR L M b/\∃t:Int,w=vi t/\K t b:=
 (cw k.r.r q l).mono λ_ b⟨t,o,v,t1,u,g⟩=>⟨k.fW m p g,t,o,r t b v t1 (k.fz m g (k.r.to g u)) g⟩
def SQ.gC(g:SQ n a f c d e Q j M bd i h s)(u:Rd a f l c)(E:c.size<=n)(C:eC p j M m b)(i:∀k,p k->2<=k){x v t:O}(B:SO n m b x v t o)(z:FS o):SQ n a f c d e Q m b x v t o:=
 have D:=u.lt
 have w:∀k,k<n->b[k]? =M[k]? :=λk q=>C.dO k (aO q g.w.le) λy=>by have:=i _ y;have:=g.w.iY k q;omega
 have r:Fz [a] c b:=⟨bX g.r.f.size C.size,λk q A=>(w k V).trans (g.r.f.same k q A)⟩
 ⟨B,⟨r,u.MC g.r.r r (w a V)⟩,⟨(C.jU _ g.k1.2.1).trans g.k1.1,aO g.k1.2.1 C.size,g.k1.2.2⟩,⟨(C.jU _ g.k2.2.1).trans g.k2.1,aO g.k2.2.1 C.size,g.k2.2.2⟩,z⟩
def SQ.dv(l:SQ n a f c d e Q j M bd i h s)(o:∀g∈L,g=d\/g=e)(C:eC p j M m b)(i:∀k,p k->2<=k):dR L M b:=λg q=>by
 have r:=l.k1;have a2:=l.k2;rcases o g q with k|k<;>subst k<;>exact C.dO _ V λk=>by have:=i _ k;omega
def SQ.fI(t:SQ n a f c d e Q j M bd i h s)(u:cR ((h.len:Int) -1)>=0):∃b l r o q k,s.aA=b++[l]/\sa j M h b l r o q k/\cR ((h.len:Int) -1)=(b.length:Int)/\h.len=b.length+1:=by
 have F:=t.w.aA;have p:=t.fs.lI.depth;rcases List.eq_nil_or_concat s.aA with g|⟨b,l,g⟩
 ·rw[g]at F;obtain⟨k,m⟩:=F;have:=m.p7.len;rw[df m.size,m.len]at this;simp only[eG]at this;rw[aP V V]at u;omega
 ·rw[List.concat_eq_append]at g;rw[g]at F p;obtain⟨r,o,q,k,T⟩:=F.fI;have:=T.uX;simp at p;exact⟨b,l,r,o,q,k,g,T,by rw[aP V V];omega,this⟩
def FS.fI(h:FS s){d:List aW}{j g:aW}(i:s.aA=d++[j])(k:Va g)(l:g.ao.length<=1000000/\g.aQ.length<=1000000/\g.br.length<=1000000):FS {s with aA:=d++[g]}:=by
 have b:=h.IN;have c:=h.lI;have e:∀x∈d,x∈s.aA:=λx a=>by rw[i];simp[a]
 have f:=c.depth;rw[i]at f;simp at f;refine⟨⟨b.bE,b.heap,λx a=>?_,b.lh,bR,λx a=>?_⟩,⟨c.bd,c.fl,c.heap,bR,λx a=>?_⟩,h.lo⟩<;>rcases List.mem_append.1 a with a|a
 ·exact b.aA x (e x a)
 ·simp at a;rw[a];exact k
 ·exact b.lr x (e x a)
 ·simp at a;rw[a];omega
 ·exact c.aA x (e x a)
 ·simp at a;rw[a];exact l
def SQ.uP(m:SQ n a f c d e Q j M bd i h s)(r:Rd a f l c)(t:c.size<=n){q:List aW}{z g:aW}(y:s.aA=q++[z]){J H I:O}{w:List (List Ce)}(T:sa j b h q g J H I w)(C:eC (λo=>4<=o/\o≠9) j M j b)(E:Va g)(G:g.ao.length<=1000000/\g.aQ.length<=1000000/\g.br.length<=1000000)
 (A:∀k∈L,k=d\/k=e)(B:Q<=P){v k p x:Int}(D:O2 p)(u:List Ce):dR L M b/\SP n a f c P (.agg #[vi v,vi k,vi p,vi x,O.v bd,O.v i,O.v h]) (ah b d 0 u):=
 ⟨m.dv A C λo F=>V,(m.gC r t C (λo F=>V) (m.w.jb C T.uP) (m.fs.fI y E G)).done r t B D u⟩
end
end
section
section
variable{S:List Nat}{m:J}{b P:Nat}{a:O}
end
end
section
def PZ(f:Nat->Nat):∀n,∃B,∀i,i<n->f i<=B
 |0=>⟨0,aJ⟩
 |n+1=>let⟨B,h⟩:=PZ f n;⟨B+f n,λi a=>by
  rcases bA i n with e|e
  ·have:=h i e;omega
  ·have:i=n:=V;subst this;omega⟩
def dm.xg{y:cq}{s:St}(e:dm y s)(o:s.bW=0):s.heap=[]:=by
 have i:=e.done.1 o;obtain⟨n,v⟩:=e.heap.Qz;obtain⟨B,p⟩:=PZ n s.heap.length;apply de;intro t;have A:0<s.heap.length:=List.length_pos_iff.2 t;have fQ:∀f,∃(b:Nat)(c:bQ),s.heap[b]? =some c/\0<c.aS/\f<=n b:=λf=>by
  induction f with
  |zero=>
   obtain⟨c,d⟩:=ag (l:=s.heap) (k:=s.heap.length -1) V;refine⟨_,c,d,?_,eY _⟩;have j:=e.jX c d;rcases Int.lt_or_le c.aS 0 with g|g
   ·have:=e.kD _ ⟨c,d,g⟩;rw[i]at this;simp[holds]at this
   ·omega
  |succ f x=>
   obtain⟨b,c,d,u,r⟩:=x;have:=e.heap.ex b c d u;rw[i]at this;simp only[lB]at this;obtain⟨g,q,j⟩:=JS (h:=s.heap) (f:=b) V;obtain⟨m,hd⟩:=List.mem_iff_getElem?.1 q;have w:=v m g hd _ j V;rw[uo]at w;refine⟨m,g,hd,?_,V⟩;apply de;intro z;have:=((e.heap.cell g (av hd)).FK V).2.1 _ j;omega
 obtain⟨b,c,d,_,r⟩:=fQ (B+1);have:=p b (aD d);omega
def dm.jB{a:cq}{s:St}(h:dm a s):dm a {s with aY:=40}:=⟨h.fC,h.bW,h.done,h.value,h.DQ,aJ,⟨h.bE.1,by have:=h.bE;have:=h.aY;show s.bE<=40;omega⟩,h.depth,h.bd,h.heap,h.jX,h.aA,h.first,h.chain,h.kD,h.px⟩
def gG.le{m f:J}{bd d c:O}{s:St}(b:gG m bd d c s)(a:Le m f):gG f bd d c s:=⟨b.bd.le a,eK.le b.heap a λk j⟨n,e,h⟩=>⟨n,e,h.le a⟩,eK.le b.aA a λk j⟨r,o,h,e,g,i,l⟩=>⟨r,o,h,e,g.le a,i.le a,l.le a⟩⟩
def ZH(m:J)(v:Value)(a:J):Prop:=v=vb true/\N m a
section
variable{m:J}{d p bd b a:O}{c:cq}{s:St}
end
end
section
variable{d:cq}{s:St}{a b:Int}{n:Nat}
structure lG where
 ar:Int
 fA:Int
 iI:Int
 yQ:Int
 qv:Int
 mG:Int
 depth:Int
 ez:Int
def mx(a b:Int):Int:=if b>a then b else a
def gK:List bQ->Int
 |[]=>0
 |c::h=>(if 0<c.aS then 1 else 0)+gK h
def mq(n:Int):List bQ->Int
 |[]=>n
 |c::h=>mq (mx n c.aS) h
def Ns(c:lG)(s:St):lG:={c with mG:=mx c.mG (gK s.heap),depth:=mx c.depth s.aA.length,ez:=mq c.ez s.heap}
def rC(c:lG)(a:Int)(mf:Bool):lG:=
 if mf=true then{c with iI:=c.iI+1}
 else if a=6\/a=10 then{c with fA:=c.fA+1}
 else if a=14 then{c with yQ:=c.yQ+1}
 else if a=15 then{c with qv:=c.qv+1}
 else c
def kA(d:cq)(s:St):Instr:=
 match s.aA.getLast? with
 |some f=>dh d f
 |none=>⟨0,0,0,0,[],[]⟩
def mf(d:cq)(s:St):Bool:=
 match s.aA.getLast? with
 |some f=>decide ((dh d f).op=6/\(dh d f).bH≠0/\D f.br ((dh d f).bH -1)≠0)
 |none=>false
noncomputable def Ng (d:cq) (s:St) (c:lG):lG:=
 let a:lG:={c with ar:=c.ar+1}
 Ns (if(mT d s).bW=3\/(mT d s).bW=0 then rC a (kA d s).op (mf d s)else a) (mT d s)
noncomputable def iS (d:cq) (a:St):Nat->lG
 |0=>Ns ⟨0,0,0,0,0,0,0,0⟩ a
 |k+1=>Ng d (ar d k a) (iS d a k)
def CW(c:lG)(d:Int)(a:Int)(s:St):lG:=
 let b:lG:={c with ar:=c.ar+1}
 if s.bW=1\/s.bW=2 then b else
 let e:lG:=if d=6\/d=10 then{b with fA:=c.fA+1 -a,iI:=c.iI+a,mG:=mx c.mG (gK s.heap)}
  else if d=14 then{b with yQ:=c.yQ+1}else if d=15 then{b with qv:=c.qv+1}else b
 {e with depth:=mx e.depth s.aA.length,ez:=mq e.ez s.heap}
def Nh:∀(h:List bQ)(n:Int),n<=mq n h
 |[],n=>cC _
 |c::h,n=>by
  have:=Nh h (mx n c.aS);have:n<=mx n c.aS:=by unfold mx;split<;>omega
  simp only[mq];omega
def Ni:∀(h:List bQ)(n:Int),(∀c∈h,c.aS<=n)->mq n h=n
 |[],_,_=>rfl
 |d::h,n,a=>by
  have f:=a d aJ;have b:mx n d.aS=n:=by unfold mx;split<;>omega
  simp only[mq];rw[b];exact Ni h n λc e=>a c (by simp[e])
def Kr:∀(h:List bQ)(n:Int),∀c∈h,c.aS<=mq n h
 |[],_,c,a=>by simp at a
 |d::h,n,c,a=>by
  simp only[mq];rcases List.mem_cons.1 a with rfl|a
  ·have:=Nh h (mx n c.aS);have:c.aS<=mx n c.aS:=by unfold mx;split<;>omega
   omega
  ·exact Kr h _ c a
def QY(h:List bQ)(n:Int):mq (mq n h) h=mq n h:=Ni h _ (Kr h n)
def EA:∀(h:List bQ),0<=gK h
 |[]=>cC _
 |c::h=>by have:=EA h;simp only[gK];split<;>omega
def JF:∀(j h:List bQ),(∀b,eH j b->eH h b)->gK j<=gK h
 |[],h,_=>EA h
 |c::i,[],d=>by
  have k:¬0<c.aS:=λa=>by obtain⟨e,g,_⟩:=d 0 ⟨c,rfl,a⟩;simp at g
  have:=JF i [] λb⟨e,g,a⟩=>by obtain⟨f,hd,_⟩:=d (b+1) ⟨e,by simpa using g,a⟩;simp at hd
  simp only[gK]at*;rw[ae k];omega
 |c::i,e::t,d=>by
  have k:0<c.aS->0<e.aS:=λa=>by obtain⟨f,hd,g⟩:=d 0 ⟨c,rfl,a⟩;simp at hd;subst hd;exact g
  have:=JF i t λb⟨f,hd,a⟩=>by
   obtain⟨l,m,g⟩:=d (b+1) ⟨f,by simpa using hd,a⟩;exact⟨l,by simpa using m,g⟩
  simp only[gK];split<;>split<;>omega
def FX:∀(h:List bQ),gK h<=h.length
 |[]=>by simp[gK]
 |c::h=>by have:=FX h;simp only[gK,aZ];split<;>omega
def eH.mM{h:List bQ}{b:Nat}(d:eH (mM h) b):eH h b:=by
 obtain⟨c,a,e⟩:=d;unfold Go.Proofs.YtgnjacfobdjeeaaGreat.mM at a;rw[kW]at a;split at a
 ·exact⟨c,a,e⟩
 ·simp at a
def eH.zo{h:List bQ}{w:Int}(e:fQ h w)(c:bQ){b:Nat}(d:eH (h.set (ix w) c) b):eH h b:=by
 by_cases a:b=ix w
 ·subst a;exact e.2
 ·exact(eH.ne a).1 d
def eH.il:∀(a:List Int)(h:List bQ)(b:Nat),(∀w∈a,fQ h w)->eH (il h a) b->eH h b
 |[],_,_,_,c=>c
 |w::a,h,b,d,c=>by
  have e:=d w aX;exact(eH.lW e b).1 (eH.il a _ b (λv f=>⟨(d v (ai _ f)).1,(eH.lW e _).2 (d v (ai _ f)).2⟩) c)
def eH.fY:∀(n:Nat)(h:List bQ)(j:List Int),yM h+j.length<=n->∀b,eH (fY h j) b->eH h b
 |n,h,[],_,b,a=>by rw[pK]at a;exact a
 |0,h,w::r,d,b,_=>by simp at d
 |n+1,h,w::r,d,b,a=>by
  simp only[aZ]at d;rcases dt (fQ h w)with c|c
  ·obtain⟨g,i⟩:=bY c;by_cases e:(aG h w).aS=1
   ·have f:=iQ (d:=ic) g;simp only[an i,ic]at f;simp at f;rw[pL c e]at a;exact eH.zo c _ (eH.fY n _ _ (by simp[ic];omega) b a)
   ·have f:=iQ (d:={aG h w with aS:=(aG h w).aS -1}) g;simp only[an i]at f;rw[an V]at f;rw[nP c e]at a;exact eH.zo c _ (eH.fY n _ _ (by simp only[Go.Proofs.YtgnjacfobdjeeaaGreat.eQ];omega) b a)
  ·rw[nQ c]at a;exact eH.fY n _ _ V b a
def eH.apart{h:List bQ}{e:Nat->Int}(g:ft h e){w:Int}(c:fQ h w){b:Nat}(a:eH (apart h w) b):eH h b:=by
 obtain⟨d,l⟩:=bY c;unfold Go.Proofs.YtgnjacfobdjeeaaGreat.apart at a;split at a
 ·exact eH.zo c _ (eH.mM a)
 ·rename_i k;refine eH.zo c {aG h w with aS:=(aG h w).aS -1} (eH.il _ _ _ (λv i=>?_) a);obtain⟨j,f⟩:=jT.1 i;have:=g.field (fL d) j f;refine⟨f,?_⟩;by_cases e:ix v=ix w
  ·rw[e,eH.Bf d];show 0<(aG h w).aS -1;omega
  ·rw[eH.ne e];exact this.2
def Cv(y:dm d s)(k:List aW){f:aW}{x:Instr}{aQ:List Int}(g:jr d s f x aQ):
 ((dJ d s k f x aQ).bW=s.bW\/(dJ d s k f x aQ).bW=0)/\(x.op≠6->x.op≠10->∀b,eH (dJ d s k f x aQ).heap b->eH s.heap b):=by
 unfold dJ
 simp only[]
 by_cases l:x.op=0
 ·rw[an l];exact⟨Or.inl rfl,λ_ _ b a=>a⟩
 rw[ae l]
 by_cases m:x.op=1\/x.op=2\/x.op=3\/x.op=4
 ·rw[an m];exact⟨Or.inl rfl,λ_ _ b a=>a⟩
 rw[ae m]
 by_cases v:x.op=5
 ·rw[an v];exact⟨Or.inl rfl,λ_ _ b a=>a⟩
 rw[ae v]
 by_cases e:x.op=6
 ·rw[an e]
  split
  ·exact⟨Or.inl rfl,λc=>absurd e c⟩
  ·exact⟨Or.inl rfl,λc=>absurd e c⟩
 rw[ae e]
 by_cases h:x.op=10
 ·rw[an h];exact⟨Or.inl rfl,λ_ c=>absurd h c⟩
 rw[ae h]
 by_cases j:x.op=14
 ·rw[an j];exact⟨Or.inl rfl,λ_ _ b a=>(eH.lW (g.Th j).1 b).1 a⟩
 rw[ae j]
 by_cases n:x.op=15
 ·rw[an n];exact⟨Or.inl rfl,λ_ _ b a=>eH.fY _ _ _ (ad _) b (eH.mM a)⟩
 rw[ae n]
 by_cases c:x.op=16\/x.op=17
 ·rw[an c]
  split
  ·exact⟨Or.inl rfl,λ_ _ b a=>eH.zo (g.Ct c).1 _ a⟩
  ·exact⟨Or.inl rfl,λ_ _ b a=>eH.apart y.heap (g.Ct c).1 a⟩
 rw[ae c]
 by_cases o:x.op=18
 ·rw[an o];exact⟨Or.inl rfl,λ_ _ b a=>a⟩
 rw[ae o]
 by_cases p:x.op=19
 ·rw[an p];exact⟨Or.inl rfl,λ_ _ b a=>a⟩
 rw[ae p]
 by_cases q:x.op=20
 ·rw[an q];exact⟨Or.inl rfl,λ_ _ b a=>a⟩
 rw[ae q]
 by_cases r:x.op=21
 ·rw[an r];exact⟨Or.inl rfl,λ_ _ b a=>a⟩
 rw[ae r]
 by_cases t:x.op=22
 ·rw[an t];exact⟨Or.inl rfl,λ_ _ b a=>a⟩
 rw[ae t]
 by_cases w:x.op=9
 ·rw[an w];exact⟨Or.inl rfl,λ_ _ b a=>a⟩
 rw[ae w]
 by_cases u:x.op=24
 ·rw[an u];exact⟨Or.inl rfl,λ_ _ b a=>a⟩
 rw[ae u]
 by_cases i:x.op=11
 ·rw[an i];exact⟨Or.inl rfl,λ_ _ b a=>eH.apart y.heap (g.apply i).1 a⟩
 rw[ae i]
 split
 ·exact⟨Or.inr rfl,λ_ _ b a=>a⟩
 ·exact⟨Or.inl rfl,λ_ _ b a=>a⟩
def Km(i:dm d s)(e:s.bW=3):(∃k,(k=1\/k=2)/\mT d s={s with bW:=k})\/
 ∃a f aQ,s.aA=a++[f]/\jr d s f (kA d s) aQ/\mT d s=dJ d s a f (kA d s) aQ:=by
 obtain⟨a,f,b⟩:=i.split e
 have c:s.aA.getLast?=some f:=by rw[b];simp
 have g:s.aA.dropLast=a:=by rw[b];simp
 have h:kA d s=dh d f:=by unfold kA;rw[c]
 unfold mT
 rw[ae (by simpa using e),c,g,h]
 simp only[]
 split
 ·exact Or.inl ⟨1,Or.inl rfl,rfl⟩
 ·split
  ·rename_i j;exact Or.inr ⟨a,f,_,b,j,rfl⟩
  ·exact Or.inl ⟨2,Or.inr rfl,rfl⟩
structure Rk(c:lG)(s:St):Prop where
 mG:gK s.heap<=c.mG
 depth:(s.aA.length:Int)<=c.depth
 ez:mq c.ez s.heap=c.ez
def MH(h:b<=a):mx a b=a:=by unfold mx;rw[ae V]
def Uj:b<=mx a b:=by unfold mx;split<;>omega
def Oy(c:lG)(s:St):Rk (Ns c s) s:=⟨Uj,Uj,QY _ _⟩
def Sc{c:lG}(h:Rk c s):Ns c s=c:=by
 unfold Ns;rw[MH h.mG,MH h.depth,h.ez]
def Hr(b:Bool):Int:=if b=true then 1 else 0
def PN(c:lG)(b:Int)(a:Bool):(rC c b a).mG=c.mG/\(rC c b a).depth=c.depth/\(rC c b a).ez=c.ez:=by
 unfold rC;(repeat' split);all_goals exact⟨rfl,rfl,rfl⟩
def QO{f:lG}(i:dm d s)(p:s.bW=3)(g:Rk f s):CW f (kA d s).op (Hr (mf d s)) (mT d s)=Ng d s f:=by
 rcases Km i p with⟨z,w,e⟩|⟨l,q,aQ,v,n,e⟩
 ·unfold CW Ng;simp only[];rw[an (by rw[e];exact w),ae (by rw[e];simp only[];omega)];rw[Sc ⟨by rw[e];exact g.mG,by rw[e];exact g.depth,by rw[e];exact g.ez⟩]
 ·have y:(mT d s).bW=3\/(mT d s).bW=0:=by rw[e];have:=(Cv i l n).1;rw[p]at this;exact this
  have c:mf d s=true->(kA d s).op=6:=λc=>by
   have k:s.aA.getLast?=some q:=by rw[v];simp
   unfold mf at c;rw[k]at c;simp only[au]at c;unfold kA;rw[k];exact c.1
  have x:(kA d s).op≠6->(kA d s).op≠10->gK (mT d s).heap<=f.mG:=λa r=>by
   refine tf (JF _ _ λb o=>?_) g.mG;rw[e]at o;exact(Cv i l n).2 a r b o
  generalize t:mT d s=S at*;unfold CW Ng;simp only[];rw[t,ae V,an y];cases u:mf d s
  ·simp only[Hr];unfold rC Ns;simp only[jx,pC];by_cases a:(kA d s).op=6\/(kA d s).op=10
   ·simp only[an a,Int.sub_zero,Int.add_zero]
   ·simp only[ae a];have j:=MH (x (λh=>a (Or.inl h)) (λh=>a (Or.inr h)));by_cases h:(kA d s).op=14
    ·simp only[an h,j]
    ·simp only[ae h];by_cases m:(kA d s).op=15
     ·simp only[an m,j]
     ·simp only[ae m,j]
  ·have a:=c u;simp only[Hr];unfold rC Ns;simp only[a,true_or,KE];congr 1;omega
def QX(d:cq)(s:St)(c:lG):Rk (Ng d s c) (mT d s):=Oy _ _
def OH(d:cq)(a:St):∀k,Rk (iS d a k) (ar d k a)
 |0=>Oy _ _
 |k+1=>by rw[mK];exact QX _ _ _
structure NE(n:Nat)(c:lG):Prop where
 ar:0<=c.ar/\c.ar<=n
 fA:0<=c.fA/\c.fA<=n
 iI:0<=c.iI/\c.iI<=n
 yQ:0<=c.yQ/\c.yQ<=n
 qv:0<=c.qv/\c.qv<=n
def Sd{c:lG}(h:NE n c)(s:St):NE n (Ns c s):=⟨h.ar,h.fA,h.iI,h.yQ,h.qv⟩
def Tx{c:lG}(h:NE n c)(d:cq)(s:St):NE (n+1) (Ng d s c):=by
 unfold Ng;refine Sd ?_ _;obtain⟨a,b,e,f,g⟩:=h;split
 ·unfold rC;(repeat' split);all_goals exact⟨by simp only[];omega,by simp only[];omega,by simp only[];omega,by simp only[];omega,by simp only[];omega⟩
 ·exact⟨by simp only[];omega,by simp only[];omega,by simp only[];omega,by simp only[];omega,by simp only[];omega⟩
def AR(d:cq)(a:St):∀k,NE k (iS d a k)
 |0=>Sd ⟨aJ,aJ,aJ,aJ,aJ⟩ _
 |k+1=>Tx (AR d a k) _ _
end
section
variable{m g a:J}{h:List bQ}{d e:Nat}{c:lG}
structure yE(m:J)(hp:O)(h:List bQ):Prop where
 len:hp.len=h.length
 iv:∀(k:Nat)(c:bQ),h[k]? =some c->∃f,af m hp.E (hp.off+k*3)=some (vi c.aS)/\af m hp.E (hp.off+k*3+1)=some (vi c.kd)/\af m hp.E (hp.off+k*3+2)=some (O.v f)
def yE.dO{a:O}(H:yE m a h)(k:h≠[]->g[a.E]? =m[a.E]?):yE g a h:=
 ⟨H.len,λl c b=>by
  obtain⟨f,d,i,j⟩:=H.iv l c b;have e:=k (λe=>by subst e;simp at b);exact⟨f,by rw[aM e];exact d,by rw[aM e];exact i,by rw[aM e];exact j⟩⟩
def yE.lt{a:O}(H:yE m a h)(d:h≠[]):a.E<m.size:=by
 cases h with
 |nil=>exact absurd rfl d
 |cons c r=>
  obtain⟨f,b,_⟩:=H.iv 0 c rfl;exact mB b
def yE.ext{a:O}(H:yE m a h)(c:N m g):yE g a h:=H.dO λb=>c.same _ (H.lt b)
def dH.jk{N:Nat}{g:Nat->Nat}{a:O}(H:dH N g m a h):yE m a h:=
 ⟨H.len,λ_ _ e=>let⟨f,b,c,d,_⟩:=H.bV e;⟨f,b,c,d⟩⟩
def wq:∀(l r:List bQ),gK (l++r)=gK l+gK r
 |[],r=>by simp[gK]
 |c::l,r=>by simp only[cA,gK,wq l r];omega
def Ay:∀(l r:List bQ)(n:Int),mq n (l++r)=mq (mq n l) r
 |[],r,n=>rfl
 |c::l,r,n=>by simp only[cA,mq,Ay l r]
def Ew{i:O}(H:yE m i h)(y:h.length<=1000000000):uR cp 73 [O.v i] m (vi (gK h)):=by
 apply y8;simp -zeta only[aC,aB];have v:=H.len;refine dS (σ:=Int) (n:=h.length) V (λa p g=>p=gK (h.take a)/\N m g) ⟨by simp[gK],N.az _⟩ ?_;rintro a p A I μ u ⟨rfl,d⟩ q
 have x:=EA (h.take a);have w:=FX (h.take a);have z:(h.take a).length<=h.length:=bR;refine dit (λt=>?_) λt=>?_
 ·obtain⟨c,f⟩:=ag (l:=h) (k:=a) V;obtain⟨r,g1,g2,s⟩:=(H.ext d).iv a c f;refine⟨V,V,c.aS,by simpa using g1,c.kd,by simpa using g2,r,by simpa using s,?_⟩;intro B o;have j:N m o:=(d.aN _).ah d.size _ _;clear_value o;have e:gK (h.take (a+1))=gK (h.take a)+(if 0<c.aS then 1 else 0):=by rw[bn f,wq];simp[gK]
  refine⟨λb=>?_,λb=>?_⟩
  ·simp at b;rw[aP V V];exact q V _ _ ⟨by rw[e,an b],j⟩
  ·simp at b;exact q V _ _ ⟨by rw[e,ae V];omega,j⟩
 ·rw[cN V];exact⟨rfl,d⟩
structure eJ(d:Nat)(m g:J):Prop where
 size:m.size<=g.size
 same:∀b,b<m.size->b≠d->g[b]? =m[b]?
def eJ.az(d:Nat)(m:J):eJ d m m:=⟨ad _,λ_ _ _=>rfl⟩
def eJ.ext(h:eJ d a m)(e:N m g):eJ d a g:=⟨bX h.size e.size,λb c f=>by rw[e.same b (aO c h.size)];exact h.same b c f⟩
def eJ.trans(h:eJ d a m)(f:eJ d m g):eJ d a g:=⟨bX h.size f.size,λb c e=>by rw[f.same b (aO c h.size) e];exact h.same b c e⟩
def eJ.ah(h:eJ d a m)(o:Nat)(l:List Ce):eJ d a (ah m d o l):=⟨by rw[ay];exact h.size,λb e c=>by rw[bt l m d o c];exact h.same b e c⟩
def eJ.dv(h:eJ d m g){l:List Nat}(c:∀b∈l,b<m.size/\b≠d):dR l m g:=λb a=>h.same b (c b a).1 (c b a).2
def NB(c:lG):List Ce:=[.i c.ar,.i c.fA,.i c.iI,.i c.yQ,.i c.qv,.i c.mG,.i c.depth,.i c.ez]
def Lg(e d:Nat)(m:J)(c:lG)(v:Value)(g:J):Prop:=v=.tuple #[]/\cx g d e (NB c)/\eJ d m g
def Ho(C:cx m d e (NB c)){q E bd:O}{s:St}(H:yE m q s.heap)(F:s.heap≠[]->q.E≠d)(W:s.heap.length<=1000000000)(U:E.len=s.aA.length)(Z q1 q2 q3:Int):
 aL cp 43 [vp d 0,.agg #[vi Z,vi q1,vi q2,vi q3,O.v bd,O.v q,O.v E]] m (Lg e d m (Ns c s)):=by
 apply yV (d,0)
 simp -zeta only[aC,aB]
 intro v
 have B:N m v:=(N.az m).aN _
 have s1:v.size=m.size+1:=by simp[v]
 clear_value v
 have ac:=C.lt
 have w:=C.ext B
 refine⟨c.mG,w.bV 5,(Ew (H.ext B) W).mono ?_⟩
 rintro _ z ⟨rfl,t⟩
 have s2:=t.size
 have D:=w.ext t
 refine⟨t.dv bR,gK s.heap,rfl,t.bZ (w.bV 5),D.dZ (by simp[NB]),?_⟩
 intro b
 have o3:eJ d m b:=((eJ.az d m).ext (B.trans t)).ah _ _
 have t3:eJ d z b:=(eJ.az d z).ah _ _
 have x:cx b d e (NB {c with mG:=mx c.mG (gK s.heap)}):=D.ah (m:=m) (o:=5) (r:=[.i (mx c.mG (gK s.heap))])
 have s3:b.size=z.size:=ay _ _ _ _
 clear_value b
 refine⟨t3.dv bR,c.depth,x.bV 6,x.dZ (by simp[NB]),?_⟩
 rw[U]
 intro h
 have G:eJ d m h:=o3.ah _ _
 have t4:eJ d b h:=(eJ.az d b).ah _ _
 have K:cx h d e (NB {c with mG:=mx c.mG (gK s.heap),depth:=mx c.depth s.aA.length}):=x.ah (m:=m) (o:=6) (r:=[.i (mx c.depth s.aA.length)])
 have s4:h.size=b.size:=ay _ _ _ _
 clear_value h
 refine⟨t4.dv bR,?_⟩
 have hl:=H.len
 have M:yE h q s.heap:=H.dO λp=>G.same _ (H.lt p) (F p)
 refine fB (n:=s.heap.length) V (λa g=>eJ d m g/\m.size<g.size/\cx g d e (NB {c with mG:=mx c.mG (gK s.heap),depth:=mx c.depth s.aA.length,ez:=mq c.ez (s.heap.take a)})/\yE g q s.heap) ⟨G,V,by simpa[mq]using K,M⟩ ?_
 rintro a A aa μ hk ⟨o5,z5,u,P⟩ Y
 refine dit (λT=>?_) λT=>?_
 ·obtain⟨j,hd⟩:=ag (l:=s.heap) (k:=a) V
  obtain⟨R,g1,g2,S⟩:=P.iv a j hd
  refine⟨V,V,j.aS,by simpa using g1,j.kd,by simpa using g2,R,by simpa using S,?_⟩
  intro X f
  have J:N A f:=((N.az A).aN _).ah (ad _) _ _
  have s7:f.size=A.size+1:=by simp[f,X,ay]
  clear_value f
  have y:=u.ext J
  have ab:=u.lt
  have Q:mq c.ez (s.heap.take (a+1))=mx (mq c.ez (s.heap.take a)) j.aS:=by rw[bn hd,Ay];rfl
  refine⟨_,y.bV 7,y.dZ (by simp[NB]),?_⟩
  intro i
  have I:eJ d m i:=(o5.ext J).ah _ _
  have t8:eJ d f i:=(eJ.az d f).ah _ _
  have L:cx i d e (NB {c with mG:=mx c.mG (gK s.heap),depth:=mx c.depth s.aA.length,ez:=mq c.ez (s.heap.take (a+1))}):=by rw[Q];exact y.ah (m:=m) (o:=7) (r:=[.i (mx (mq c.ez (s.heap.take a)) j.aS)])
  have s8:i.size=f.size:=ay _ _ _ _
  clear_value i
  refine⟨t8.dv bR,Y V i ⟨I,V,L,H.dO λp=>I.same _ (H.lt p) (F p)⟩⟩
 ·rw[cN V]at u
  exact⟨rfl,u,o5⟩
def KO(B:cx m d e (NB c))(k:Int)(a:Bool)(n:Nat)(x:n<=1000000)(l:NE n c):aL cp 44 [vp d 0,vi k,vb a] m (Lg e d m (rC c k a)):=by
 apply wk (d,0);obtain⟨s,t,u,v,w⟩:=l;have o1:∀{q:Nat}{p:List Ce},eJ d m (ah m d q p):=(eJ.az d m).ah _ _;unfold rC;refine⟨λi=>⟨_,B.bV 2,B.dZ (by simp[NB]),?_⟩,λi=>?_⟩
 ·rw[an i,aP V V];exact⟨rfl,B.ah (m:=m) (o:=2) (r:=[.i (c.iI+1)]),o1⟩
 rw[ae (by simp[i])];have j:(let b:J:=ah m (d,0).1 ((d,0).2+1) [.i (cR (c.fA+1))];Lg e d m {c with fA:=c.fA+1} (.tuple #[]) b):=by
  rw[aP V V];exact⟨rfl,B.ah (m:=m) (o:=1) (r:=[.i (c.fA+1)]),o1⟩
 refine⟨λh=>⟨_,B.bV 1,B.dZ (by simp[NB]),?_⟩,λh=>⟨λf=>⟨_,B.bV 1,B.dZ (by simp[NB]),?_⟩,λf=>?_⟩⟩
 ·rw[an (Or.inl (by simpa using h))];exact j
 ·rw[an (Or.inr (by simpa using f))];exact j
 rw[ae (by simp at h f;omega)];refine⟨λb=>⟨_,B.bV 3,B.dZ (by simp[NB]),?_⟩,λb=>⟨λg=>⟨_,B.bV 4,B.dZ (by simp[NB]),?_⟩,λg=>?_⟩⟩
 ·rw[an (by simpa using b),aP V V];exact⟨rfl,B.ah (m:=m) (o:=3) (r:=[.i (c.yQ+1)]),o1⟩
 ·rw[ae (by simpa using b),an (by simpa using g),aP V V];exact⟨rfl,B.ah (m:=m) (o:=4) (r:=[.i (c.qv+1)]),o1⟩
 ·rw[ae (by simpa using b),ae (by simpa using g)];exact⟨rfl,B,eJ.az _ _⟩
end
section
variable{p:O}{h:List bQ}
section
variable{j:J}{a n:Nat->Nat}{m i:J}{k e sb:Nat}{c:List Ce}{bd b d:O}{g:List Int}{l:List bQ}{f:List aW}
def eJ.gC(h:eJ sb m i)(g:a sb=9)(f:∀c,m.size<=c->a c=0):eC (λk=>k=9) a m a i:=
 ⟨h.size,λ_ _=>rfl,λc d=>f c (bX h.size d),λc d b=>h.same c d λe=>b (e▸g)⟩
def rl.Om(L:rl j a m k e c bd b d g l f)(p:a sb=9)(h:eJ sb m i):rl j a i k e c bd b d g l f:=by
 have n:=h.gC p L.new;have r:=L.ct.size;refine⟨⟨bX r h.size,λo q=>?_⟩,L.iY,n.new,L.box.congr (h.same _ L.box.lt λe=>?_),L.LI,L.bd.gC n bh,L.heap.gC n bh bh,L.aA.gC n (λt s e=>V)⟩
 ·rw[h.same o V (λe=>by have:=L.iY o q;rw[e,p]at this;omega)];exact L.ct.same o q
 ·have:=L.LI;rw[e,p]at this;omega
def rl.Tn(L:rl j a m k e c bd b d g [] f){q:J}(u:N q j)(s:a sb=0)(M:q.size<=sb)(P:sb<m.size):rl q (rh a sb 9) m k e c bd b d g [] f:=by
 have up:∀{p:Nat}{w:O}{e x:Nat}{v:List Ce},iD a m e x p w v->p≠0->iD (rh a sb 9) m e x p w v:=λr C=>
  r.dO (λ_=>rfl) λB=>eF λe=>C (by rw[<-(r.E B).2,e,s])
 have Q:=u.size;refine⟨u.trans L.ct,λi t=>?_,λi t=>?_,L.box,?_,up L.bd bh,?_,?_⟩
 ·rw[eF V];exact L.iY i V
 ·rw[eF V];exact L.new i t
 ·rw[eF (λe=>by have:=L.LI;rw[e,s]at this;omega)];exact L.LI
 ·obtain⟨l,n,o,-⟩:=L.heap;have:l=[]:=List.length_eq_zero_iff.1 (by rw[o.len];rfl);subst this;exact⟨[],up n bh,gH.nil _ _,Vl.nil⟩
 ·obtain⟨l,h⟩:=L.aA;refine⟨l,up h.p7 bh,h.len,h.size,λD y z n o=>?_⟩;obtain⟨K,E,A,F,G,H,I⟩:=h.dz D y z n o;exact⟨K,E,A,F,up G V,up H V,up I V⟩
end
structure Q8(m:J)(p fr:O)(fs:List aW)(f:aW)(x:Instr)(r o h pc a j:O):Prop where
 Yv:fr.len=fs.length+1
 sm:fs.length<=1000
 g0:af m fr.E (fr.off+fs.length*6)=some (vi f.eu)
 g1:af m fr.E (fr.off+fs.length*6+1)=some (vi f.pc)
 g2:af m fr.E (fr.off+fs.length*6+2)=some (vi f.dst)
 g3:af m fr.E (fr.off+fs.length*6+3)=some (O.v r)
 g4:af m fr.E (fr.off+fs.length*6+4)=some (O.v o)
 g5:af m fr.E (fr.off+fs.length*6+5)=some (O.v h)
 eu:0<=f.eu/\f.eu<p.len
 cJ:af m p.E (p.off+f.eu.toNat*5+4)=some (O.v pc)
 WI:0<=f.pc/\f.pc<pc.len
 i0:af m pc.E (pc.off+f.pc.toNat*6)=some (vi x.op)
 i1:af m pc.E (pc.off+f.pc.toNat*6+1)=some (vi x.dst)
 i2:af m pc.E (pc.off+f.pc.toNat*6+2)=some (vi x.bL)
 i3:af m pc.E (pc.off+f.pc.toNat*6+3)=some (vi x.bH)
 i4:af m pc.E (pc.off+f.pc.toNat*6+4)=some (O.v a)
 i5:af m pc.E (pc.off+f.pc.toNat*6+5)=some (O.v j)
 br:aq m h f.br
 bH:x.op=6->0<=x.bH/\x.bH<=f.br.length
 lI:f.br.length<=2000
def Q8.ext{m g:J}{p d:O}{e:List aW}{f:aW}{x:Instr}{r o h i b j:O}(c:Q8 m p d e f x r o h i b j)(a:N m g):Q8 g p d e f x r o h i b j:=
 ⟨c.Yv,c.sm,a.af c.g0,a.af c.g1,a.af c.g2,a.af c.g3,a.af c.g4,a.af c.g5,c.eu,a.af c.cJ,c.WI,a.af c.i0,a.af c.i1,a.af c.i2,a.af c.i3,a.af c.i4,a.af c.i5,c.br.ext a,c.bH,c.lI⟩
def rl.Xy{k:J}{E:Nat->Nat}{m:J}{B q:Nat}{n:List Ce}{G bd y i:O}{a:cq}{s:St}(L:rl k E m B q n bd y i s.bd s.heap s.aA)(x:eV k G p a)(e:dm a s)(A:s.bW=3)(R:∀g∈s.aA,∀w∈g.ao,w<=9223372036854775807):
 ∃c f r o h l g j,s.aA=c++[f]/\Q8 m p i c f (kA a s) r o h l g j/\mf a s=decide ((kA a s).op=6/\(kA a s).bH≠0/\D f.br ((kA a s).bH -1)≠0):=by
 obtain⟨c,f,d⟩:=e.split A
 have t:s.aA.getLast?=some f:=by rw[d];simp
 have u:kA a s=dh a f:=by unfold kA;rw[t]
 have H:mf a s=decide ((kA a s).op=6/\(kA a s).bH≠0/\D f.br ((kA a s).bH -1)≠0):=by rw[u];unfold mf;rw[t]
 have C:xG a s c f (kA a s):=⟨e,A,d,u.symm,R⟩
 have F:rl k E m B q n bd y i s.bd s.heap (c++[f]):=by rw[<-d];exact L
 obtain⟨r,o,h,aa,T⟩:=F.aA.fI
 obtain⟨I,g1,g2,K,M,N⟩:=T.iv
 obtain⟨aj,U,W,hP,Q,hI⟩:=C.I
 obtain⟨pa,pl,l,ae,ag,z,k0,k1,k2,k3,k4⟩:=x.cB.D U
 obtain⟨g,j,ha,hj,X,Y,Z,i3,i4,i5⟩:=z.D Q
 have ah:=x.cB.len
 have af:=z.len
 have v:=C.F
 have ai:=v.eu
 have S:=v.pc
 rw[W]at S
 have b:=L.ct
 have w:=e.depth
 have ab:=e.bE
 have ad:=e.aY
 rw[d]at w
 have ac:=C.JD
 refine⟨c,f,r,o,h,l,g,j,d,⟨T.uX,by simp at w;omega,I,g1,g2,K,M,N,V,b.af k4,V,b.af X,b.af Y,b.af Z,b.af i3,b.af i4,b.af i5,T.br.nu V,λP=>?_,V⟩,H⟩
 have:=C.kv.2.2.2.2.1 P
 exact⟨this.1,this.2.1⟩
def EZ{m:J}{f:O}(H:yE m f h)(u:h.length<=1000000000):uR cp 130 [O.v f] m (vi (gK h)):=by
 apply zW;have r:=H.len;refine dS (σ:=Int) (n:=h.length) V (λa g b=>g=gK (h.take a)/\b=m) ⟨by simp[gK],rfl⟩ ?_;rintro a g w I μ q ⟨rfl,rfl⟩ i
 have t:=EA (h.take a);have s:=FX (h.take a);have v:(h.take a).length<=h.length:=bR;refine dit (λj=>?_) λj=>?_
 ·obtain⟨c,d⟩:=ag (l:=h) (k:=a) V;obtain⟨o,g1,g2,p⟩:=H.iv a c d;have e:gK (h.take (a+1))=gK (h.take a)+(if 0<c.aS then 1 else 0):=by rw[bn d,wq];simp[gK]
  refine⟨V,V,c.aS,by simpa using g1,λb=>?_,λb=>?_⟩
  ·simp at b;rw[aP V V];exact i V _ _ ⟨by rw[e,an b],rfl⟩
  ·simp at b;exact i V _ _ ⟨by rw[e,ae V];omega,rfl⟩
 ·rw[cN V];exact⟨rfl,N.az _⟩
def xX{m:J}{e:O}(H:yE m e h)(s:h.length<=1000000000)(b:Int):uR cp 131 [O.v e,vi b] m (vi (mq b h)):=by
 apply uB;have r:=H.len;refine dS (σ:=Int) (n:=h.length) V (λa f c=>f=mq b (h.take a)/\c=m) ⟨by simp[mq],rfl⟩ ?_;rintro a f t I μ q ⟨rfl,rfl⟩ j
 refine dit (λi=>?_) λi=>?_
 ·obtain⟨c,d⟩:=ag (l:=h) (k:=a) V;obtain⟨o,g1,g2,p⟩:=H.iv a c d;have g:mq b (h.take (a+1))=mx (mq b (h.take a)) c.aS:=by rw[bn d,Ay];rfl
  exact⟨V,V,c.aS,by simpa using g1,j V _ _ ⟨by rw[g];rfl,rfl⟩⟩
 ·rw[cN V];exact⟨rfl,N.az _⟩
def MU{b:J}{j X:Nat}{w:List Ce}{E:Nat}{e:O}{n:List aW}{f:aW}{x:Instr}{t s h R C L:O}(B:cx b j X w)(b1:w[1]? =some (.s p))(W:w[8]? =some (.s e))(F:Q8 b p e n f x t s h R C L):
 aL cp 74 [vp E 0,vp j 0] b λaa m'=>aa=.tuple #[vi x.op,vi (Hr (decide (x.op=6/\x.bH≠0/\D f.br (x.bH -1)≠0)))]/\N b m':=by
 apply uy (E,0) (j,0)
 simp -zeta only[aC,aB]
 have hl:=F.Yv
 have hs:=F.sm
 have Y:cR ((e.len:Int) -1)=(n.length:Int):=by rw[aP V V];omega
 have Z:Int.toNat (n.length:Int)=n.length:=V
 have q:af b j 8=some (O.v e):=by rw[B.bV 8,W];rfl
 have H:af b j 1=some (O.v p):=by rw[B.bV 1,b1];rfl
 refine⟨e,q,e,q,?_⟩
 rw[Y,Z]
 refine⟨V,V,_,F.g0,_,F.g1,_,F.g2,t,F.g3,s,F.g4,h,F.g5,?_⟩
 intro P
 have d:N b P:=(N.az b).aN _
 refine⟨d.bZ F.g0,d.bZ F.g1,d.bZ F.g2,d.bZ F.g3,d.bZ F.g4,d.bZ F.g5,d.bZ q,d.bZ q,?_⟩
 intro g
 have u:N b g:=d.ah (ad _) _ _
 have M:cx g b.size cQ [.i f.eu,.i f.pc,.i f.dst,.s t,.s s,.s h]:=cx.ah (m:=P) (o:=0) (r:=[.i f.eu,.i f.pc,.i f.dst,.s t,.s s,.s h]) (cx.push b _ _)
 clear_value g
 have a:=F.ext u
 refine⟨p,u.af H,F.eu.1,F.eu.2,R,a.cJ,F.WI.1,F.WI.2,_,a.i0,_,a.i1,_,a.i2,_,a.i3,C,a.i4,L,a.i5,?_⟩
 intro m3
 have c:N g m3:=(N.az g).aN _
 refine⟨c.bZ a.i0,c.bZ a.i1,c.bZ a.i2,c.bZ a.i3,c.bZ a.i4,c.bZ a.i5,c.bZ (M.bV 1),c.bZ a.cJ,c.bZ (M.bV 0),c.bZ (u.af H),?_⟩
 intro Q
 have S:N g Q:=c.ah (ad _) _ _
 clear_value Q
 have v:=u.trans S
 have U:=a.ext S
 have A:¬(x.op=6/\x.bH≠0/\D f.br (x.bH -1)≠0)->vi (0:Int)=vi (Hr (decide (x.op=6/\x.bH≠0/\D f.br (x.bH -1)≠0))):=λhn=>by rw[HJ hn];rfl
 refine⟨λy=>?_,λy=>⟨by rw[<-A (by simp at y;omega)],v⟩⟩
 have I:x.op=6:=by simpa using y
 obtain⟨q1,q2⟩:=F.bH I
 have ae:=F.lI
 refine⟨λz=>?_,λz=>⟨by rw[<-A (by simp at z;omega)],v⟩⟩
 have ab:0<x.bH:=by simpa using z
 have ac:=F.br.len
 rw[aP V V]
 obtain⟨T,K⟩:=ag (l:=f.br) (k:=(x.bH -1).toNat) V
 have G:D f.br (x.bH -1)=T:=CK K
 refine⟨V,V,T,U.br.D K,λi=>?_,λi=>?_⟩
 ·simp at i
  rw[tm (show x.op=6/\x.bH≠0/\D f.br (x.bH -1)≠0 from⟨I,V,by rw[G];exact i⟩)]
  exact⟨rfl,v⟩
 ·simp at i
  rw[<-A (λhh=>hh.2.2 (by rw[G];exact i))]
  exact⟨rfl,v⟩
end
section
variable{f:J}{e g h k:Nat}{c:lG}{d p:O}{s:St}{b:cq}
def NC(g h:Nat)(M:J)(R:Value->J->Prop):Prop:=
 ∃b:Int,af M g 6=some (vi b)/\
 ∃c:O,af M h 8=some (O.v c)/\
 dZ M g 6 1/\
 let a:J:=ah M g 6 [.i (if(c.len:Int)>b then(c.len:Int)else b)]
 ∃f:O,af a h 7=some (O.v f)/\
 ∃i:Int,af a g 7=some (vi i)/\
 aL cp 131 [O.v f,vi i] a λr d=>
 ∃e:Int,r=vi e/\
 dZ d g 7 1/\
 let j:J:=ah d g 7 [.i e]
 R (.tuple #[]) j
def Oh{M:J}{w:Nat}{bd a b:O}(K:cx f h w (SB d p s bd a b))(n:h≠g)(H:yE f a s.heap)(y:s.heap≠[]->a.E≠g)(z:s.heap.length<=1000000000)(x:b.len=s.aA.length)
 (B:cx M g e (NB c))(q:eJ g f M):NC g h M (Lg e g f {c with depth:=mx c.depth s.aA.length,ez:=mq c.ez s.heap}):=by
 have l:=K.lt
 have u:=K.congr (q.same h l n)
 refine⟨c.depth,B.bV 6,b,u.bV 8,B.dZ (by simp[NB]),?_⟩
 rw[x]
 intro i
 have o2:eJ g f i:=q.ah _ _
 have j:cx i g e (NB {c with depth:=mx c.depth s.aA.length}):=B.ah (m:=f) (o:=6) (r:=[.i (mx c.depth s.aA.length)])
 clear_value i
 have v:=K.congr (o2.same h l n)
 refine⟨a,v.bV 7,c.ez,j.bV 7,(xX (H.dO λk=>o2.same _ (H.lt k) (y k)) z c.ez).mono ?_⟩
 rintro _ A ⟨rfl,t⟩
 have k:=j.ext t
 refine⟨_,rfl,k.dZ (by simp[NB]),?_⟩
 intro C
 exact⟨rfl,k.ah (m:=f) (o:=7) (r:=[.i (mq c.ez s.heap)]),(o2.ext t).ah _ _⟩
def MW{T:Nat}{bd q G:O}(K:cx f h T (SB d p s bd q G))(v:h≠g)(H:yE f q s.heap)(L:s.heap≠[]->q.E≠g)(N:s.heap.length<=1000000000)(U:G.len=s.aA.length)
 (B:cx f g e (NB c))(b:Int){a:Int}(ha:0<=a/\a<=1)(Q:Nat)(hn:Q<=1000000)(W:NE Q c):
 aL cp 76 [vp g 0,vp h 0,vi b,vi a] f (Lg e g f (CW c b a s)):=by
 apply uz (g,0) (h,0)
 obtain⟨Y,Z,h3,h4,h5⟩:=W
 have I:=K.lt
 refine⟨c.ar,B.bV 0,B.dZ (by simp[NB]),?_⟩
 rw[aP V V]
 intro w
 have o1:eJ g f w:=(eJ.az g f).ah _ _
 have i:cx w g e (NB {c with ar:=c.ar+1}):=B.ah (m:=f) (o:=0) (r:=[.i (c.ar+1)])
 clear_value w
 have F:=K.congr (o1.same h I v)
 have tail:∀{M:J}{l:lG},cx M g e (NB l)->eJ g f M->NC g h M (Lg e g f {l with depth:=mx l.depth s.aA.length,ez:=mq l.ez s.heap}):=λB X=>Oh K v H L N U B X
 refine⟨s.bW,F.bV 2,λz=>?_,λz=>⟨s.bW,F.bV 2,λA=>?_,λA=>?_⟩⟩
 ·unfold CW;simp only[];rw[an (Or.inl (by simpa using z))];exact⟨rfl,i,o1⟩
 ·unfold CW;simp only[];rw[an (Or.inr (by simpa using A))];exact⟨rfl,i,o1⟩
 have n:¬(s.bW=1\/s.bW=2):=by simp at z A;omega
 refine⟨λC=>?_,λC=>?_⟩
 ·have k:b=6\/b=10:=by simpa using C
  have en:CW c b a s={({c with ar:=c.ar+1,fA:=c.fA+1 -a,iI:=c.iI+a,mG:=mx c.mG (gK s.heap)}:lG)with depth:=mx c.depth s.aA.length,ez:=mq c.ez s.heap}:=by
   unfold CW;simp only[];rw[ae n,an k]
  rw[en]
  refine⟨c.fA,i.bV 1,i.dZ (by simp[NB]),?_⟩
  rw[aP (b:=c.fA+1) V V,aP (b:=c.fA+1 -a) V V]
  intro u
  have o2:eJ g f u:=o1.ah _ _
  have j:cx u g e (NB {c with ar:=c.ar+1,fA:=c.fA+1 -a}):=i.ah (m:=f) (o:=1) (r:=[.i (c.fA+1 -a)])
  clear_value u
  refine⟨c.iI,j.bV 2,j.dZ (by simp[NB]),?_⟩
  rw[aP V V]
  intro y
  have o3:eJ g f y:=o2.ah _ _
  have t:cx y g e (NB {c with ar:=c.ar+1,fA:=c.fA+1 -a,iI:=c.iI+a}):=j.ah (m:=f) (o:=2) (r:=[.i (c.iI+a)])
  clear_value y
  have S:=K.congr (o3.same h I v)
  refine⟨c.mG,t.bV 5,q,S.bV 7,(EZ (H.dO λD=>o3.same _ (H.lt D) (L D)) N).mono ?_⟩
  rintro _ m4 ⟨rfl,D⟩
  have E:=t.ext D
  refine⟨_,rfl,D.bZ (t.bV 5),E.dZ (by simp[NB]),?_⟩
  intro P
  have o5:eJ g f P:=(o3.ext D).ah _ _
  have R:cx P g e (NB {c with ar:=c.ar+1,fA:=c.fA+1 -a,iI:=c.iI+a,mG:=mx c.mG (gK s.heap)}):=E.ah (m:=f) (o:=5) (r:=[.i (mx c.mG (gK s.heap))])
  exact tail R o5
 ·have k:¬(b=6\/b=10):=by simp at C;omega
  refine⟨λt=>?_,λt=>⟨λy=>?_,λy=>?_⟩⟩
  ·have j:b=14:=by simpa using t
   have en:CW c b a s={({c with ar:=c.ar+1,yQ:=c.yQ+1}:lG)with depth:=mx c.depth s.aA.length,ez:=mq c.ez s.heap}:=by
    unfold CW;simp only[];rw[ae n,ae k,an j]
   rw[en]
   refine⟨c.yQ,i.bV 3,i.dZ (by simp[NB]),?_⟩
   rw[aP V V]
   exact tail (l:={c with ar:=c.ar+1,yQ:=c.yQ+1}) (i.ah (m:=f) (o:=3) (r:=[.i (c.yQ+1)])) (o1.ah _ _)
  ·have j:¬b=14:=by simpa using t
   have u:b=15:=by simpa using y
   have en:CW c b a s={({c with ar:=c.ar+1,qv:=c.qv+1}:lG)with depth:=mx c.depth s.aA.length,ez:=mq c.ez s.heap}:=by
    unfold CW;simp only[];rw[ae n,ae k,ae j,an u]
   rw[en]
   refine⟨c.qv,i.bV 4,i.dZ (by simp[NB]),?_⟩
   rw[aP V V]
   exact tail (l:={c with ar:=c.ar+1,qv:=c.qv+1}) (i.ah (m:=f) (o:=4) (r:=[.i (c.qv+1)])) (o1.ah _ _)
  ·have j:¬b=14:=by simpa using t
   have u:¬b=15:=by simpa using y
   have en:CW c b a s={({c with ar:=c.ar+1}:lG)with depth:=mx c.depth s.aA.length,ez:=mq c.ez s.heap}:=by
    unfold CW;simp only[];rw[ae n,ae k,ae j,ae u]
   rw[en]
   exact tail i o1
def OI(b:cq)(aY:Int):∃c:lG,∀k,k<=100000->(ar b k (cD b aY)).bW≠3->(∀j,j<k->(ar b j (cD b aY)).bW=3)->c=iS b (cD b aY) k:=by
 by_cases h:∃k,k<=100000/\(ar b k (cD b aY)).bW≠3/\(∀j,j<k->(ar b j (cD b aY)).bW=3)
 ·obtain⟨k,_,d,e⟩:=h;refine⟨iS b (cD b aY) k,λj _ f g=>?_⟩;have:j=k:=by
   rcases Nat.lt_trichotomy j k with a|a|a
   ·exact absurd (e j a) f
   ·exact a
   ·exact absurd (g k a) d
  rw[this]
 ·exact⟨⟨0,0,0,0,0,0,0,0⟩,λk a d e=>absurd ⟨k,a,d,e⟩ h⟩
noncomputable def lM (b:cq) (aY:Int):lG:=Classical.choose (OI b aY)
def Av{aY:Int}(a:k<=100000)(c:(ar b k (cD b aY)).bW≠3)(d:∀j,j<k->(ar b j (cD b aY)).bW=3):lM b aY=iS b (cD b aY) k:=
 dU (OI b aY) k a c d
def Fm(c:lG):Value:=.agg #[vi c.ar,vi c.fA,vi c.iI,vi c.yQ,vi c.qv,vi c.mG,vi c.depth,vi c.ez]
def Kl(b:cq)(aY:Int):iS b (cD b aY) 0=⟨0,0,0,0,0,0,1,0⟩:=by
 simp[iS,Ns,cD,mx,gK,mq]
def JV{aY:Int}(f:gP b)(e:0<=aY/\aY<=40)(h:k<=100000)(g:(ar b k (cD b aY)).bW=3):k<100000:=by
 rcases bA k 100000 with a|a
 ·exact a
 ·have d:k=100000:=V;have c:=(Fo f e).2.2;rw[se,<-d]at c;exact absurd g c
def IG(S:eV f d p b)(C:gP b){aY:Int}(X:0<=aY/\aY<=40):
 aL cp 45 [.agg #[O.v d,O.v p],vi aY] f λau x=>au=Fm (lM b aY)/\N f x:=by
 apply DC
 simp -zeta only[aC,aB]
 intro u c i
 have F:N f c:=((N.az f).aN _).aN _
 have an:N f i:=F.aN _
 have Q:N c i:=(N.az c).aN _
 have s1:u.size=f.size+1:=by simp[u]
 have s2:c.size=f.size+2:=by simp[c,s1]
 have s3:i.size=f.size+3:=by simp[i,s2]
 have kI:cx i f.size dK [.s d,.s p]:=((cx.push f _ _).ext (N.push u _)).ext Q
 have kC:cx i c.size vW (NB ⟨0,0,0,0,0,0,1,0⟩):=cx.push c _ _
 clear_value i
 have hl:∀g∈[c.size,u.size,f.size],g<i.size:=bR
 refine(DB (S.ext an) C aY).mono ?_
 rintro _ l ⟨bd,Y,M,rfl,s,b1,b2,b3,b4,k,q1,q2,q3,q4,q5,af,q6,k4⟩
 refine⟨s.dv hl,_,_,_,_,_,_,_,rfl,s.bZ (kI.bV 0),s.bZ (kI.bV 1),?_⟩
 intro v
 have R:N l v:=(N.az l).aN _
 have kb:cx v l.size bO ([.s d,.s p]++[.i 3,.i 0,.i 0,.i aY,.s bd,.s Y,.s M]):=cx.push l _ _
 have y:=Sg (p:=i) ⟨q1,q2,q3,q4,q5⟩ af q6 k4 R (ad _) kb
 have s4:=s.size
 have s5:v.size=l.size+1:=by simp[v]
 clear_value v
 have L:=y.Tn (sb:=c.size) Q (y.iY _ V) (ad _) V
 have ao:=(kC.ext s).ext R
 generalize aa:rh (rh (rh (lX (λ_=>0) b1 b2 b3 0) b4 4) l.size 1) c.size 9=ro at L
 have al:ro c.size=9:=by rw[<-aa];exact gX _ _ _
 have E:=vT C X
 have T:=S.ext F
 have t:∀g∈[u.size,f.size],g<c.size:=bR
 clear aa y
 refine Nk (λ(k:Nat) x=>k<=100000/\(∀j,j<k->(ar b j (cD b aY)).bW=3)/\cx x c.size vW (NB (iS b (cD b aY) k))/\
  ∃q o n h,rl c q x l.size bO (SB d p (ar b k (cD b aY)) o n h) o n h (ar b k (cD b aY)).bd (ar b k (cD b aY)).heap (ar b k (cD b aY)).aA/\q c.size=9)
  (λk=>100000 -k) 0 ⟨eY _,λj U=>absurd U (HI _),by rw[Kl];exact ao,ro,bd,Y,M,L,al⟩ ?_
 rintro k m6 av μ ⟨W,ab,h,aJ,aH,aF,az,q,r6⟩ ap
 have D:=sX k E
 have w:=sY k E (vU b aY) V
 have am:=AR b (cD b aY) k
 refine⟨_,q.box.bV 2,λA=>?_,λA=>?_⟩
 ·have r:(ar b k (cD b aY)).bW=3:=by simpa using A
  have aE:=JV C X W r
  obtain⟨fs,ay,aI,aG,aA,pc,aw,j,hf,ae,ea⟩:=q.Xy T D r w.IN
  refine(MU (E:=c.size) q.box rfl rfl ae).mono ?_
  rintro _ m7 ⟨rfl,I⟩
  obtain⟨z,_⟩:=q.ext I
  have J:=h.ext I
  refine⟨I.dv (λg o=>q.ct.lt (t g o)),_,_,rfl,(MY z T D w.IN (by have:=w.heap;omega) (by have:=w.bd;omega)).mono ?_⟩
  rintro _ m8 ⟨ac,aq,Z,P,n,H⟩
  have z7:=J.lt
  have B8:=J.congr (H.dO _ z7 (by rw[r6];simp))
  have G:ac c.size=9:=by rw[H.jU _ z7];exact r6
  rw[<-mK]at n
  have ag:=sY (k+1) E (vU b aY) V
  rw[<-ea]
  have ah:P.len=(ar b (k+1) (cD b aY)).aA.length:=by
   obtain⟨ax,B⟩:=n.aA;have:=B.p7.len;rw[df B.size,B.len]at this;omega
  have ai:(ar b (k+1) (cD b aY)).heap≠[]->Z.E≠c.size:=λak e=>by
   have:=(n.heap.E (a:=0) (List.length_pos_iff.2 ak)).1;rw[e,G]at this;omega
  have aj:l.size≠c.size:=V
  refine⟨H.dB (λg o=>⟨z.ct.lt (t g o),z.iY g (t g o)⟩),(MW n.box aj n.heap.jk ai (by have:=ag.heap;omega) ah B8 (kA b (ar b k (cD b aY))).op (a:=Hr (mf b (ar b k (cD b aY)))) (by unfold Hr;split<;>omega) k V am).mono ?_⟩
  rintro _ m9 ⟨rfl,K,o9⟩
  have en:CW (iS b (cD b aY) k) (kA b (ar b k (cD b aY))).op (Hr (mf b (ar b k (cD b aY)))) (ar b (k+1) (cD b aY))=iS b (cD b aY) (k+1):=by
   rw[mK,QO D r (OH b _ k)];rfl
  rw[en]at K
  have aD:=n.ct.size
  refine⟨o9.dv (λg o=>⟨by have:=t g o;omega,by have:=t g o;omega⟩),ap (k+1) m9 ⟨V,λj U=>?_,K,ac,aq,Z,P,n.Om G o9,G⟩ (by show 100000 -(k+1)<100000 -k;omega)⟩
  rcases bA j k with o|o
  ·exact ab j o
  ·have:j=k:=V
   rw[this];exact r
 ·have r:(ar b k (cD b aY)).bW≠3:=by simpa using A
  refine⟨_,h.bV 0,_,h.bV 1,_,h.bV 2,_,h.bV 3,_,h.bV 4,_,h.bV 5,_,h.bV 6,_,h.bV 7,?_⟩
  intro m7
  rw[Av W r ab]
  exact⟨rfl,(F.trans q.ct).ah V _ _⟩
structure ZI where
 c:lG
 ok:Bool
open Classical in
noncomputable def pG (b:cq) (aY:Int):ZI:=
 if gP b/\0<=aY/\aY<=40 then⟨lM b aY,true⟩else⟨⟨0,0,0,0,0,0,0,0⟩,false⟩
def HY(q:eV f d p b)(aY:Int):uR cp 23 [.agg #[O.v d,O.v p],vi aY] f (.tuple #[Fm (pG b aY).c,vb (pG b aY).ok]):=by
 apply C4;simp -zeta only[aC,aB];intro m e;have c:N f e:=((N.az f).aN _).aN _;have w:m.size=f.size+1:=by simp[m]
 have C:e.size=f.size+2:=by simp[e,w]
 clear_value e;have l:∀a∈[m.size,f.size],a<e.size:=bR;have t:¬(gP b/\0<=aY/\aY<=40)->(.tuple #[.agg #[vi (0:Int),vi (0:Int),vi (0:Int),vi (0:Int),vi (0:Int),vi (0:Int),vi (0:Int),vi (0:Int)],vb false]:Value)=.tuple #[Fm (pG b aY).c,vb (pG b aY).ok]:=λv=>by
  rw[pG,ae v];rfl
 refine(DG (q.ext c)).aK (N.az _) l λa y h n _=>⟨a,rfl,λi=>⟨t (λk=>nb h i k.1),(c.trans n).ah V _ _⟩,λi=>?_⟩;have s:=yb h i;refine(bF _ _ _ _).aK n l λb2 z o x g=>⟨b2,rfl,λj=>⟨t (λk=>nb o j k.2),(c.trans g).ah V _ _⟩,λj=>?_⟩;have r:=yb o j;refine(IG (q.ext (c.trans g)) s r).mono ?_;rintro _ A ⟨rfl,k⟩;have u:=g.trans k;refine⟨k.dv (λa h=>g.lt (l a h)),_,_,_,_,_,_,_,_,rfl,?_⟩;intro B;refine⟨?_,(c.trans u).ah V _ _⟩;rw[pG,an ⟨s,r⟩];rfl
end
def rZ(e i b1 f:Nat)(m g:O)(T:J)(S:Value->J->Prop):Prop:=
 ∃(z:J->Prop)(μ0:J->Nat),
 z T/\
 (∀(a:J),z a->
 ∃F:Int,af a e 3=some (vi F)/\
 ((F==(3:Int))=true->
 ∃k:O,af a e 9=some (O.v k)/\
 ∃r:O,af a e 9=some (O.v r)/\
 (0:Int)<=(cR ((r.len:Int) -(1:Int)))/\(cR ((r.len:Int) -(1:Int)))<(k.len:Int)/\
 ∃l:Int,af a k.E (k.off+Int.toNat (cR ((r.len:Int) -(1:Int)))*6)=some (vi l)/\
 ∃d:Int,af a k.E (k.off+Int.toNat (cR ((r.len:Int) -(1:Int)))*6+1)=some (vi d)/\
 ∃s:Int,af a k.E (k.off+Int.toNat (cR ((r.len:Int) -(1:Int)))*6+2)=some (vi s)/\
 ∃t:O,af a k.E (k.off+Int.toNat (cR ((r.len:Int) -(1:Int)))*6+3)=some (O.v t)/\
 ∃u:O,af a k.E (k.off+Int.toNat (cR ((r.len:Int) -(1:Int)))*6+4)=some (O.v u)/\
 ∃p:O,af a k.E (k.off+Int.toNat (cR ((r.len:Int) -(1:Int)))*6+5)=some (O.v p)/\
 let U:J:=a.push (.cells (bC [.i (0:Int),.i (0:Int),.i (0:Int),.s O.nil,.s O.nil,.s O.nil]) cQ)
 qP a.size a.size (
 let b:J:=ah U a.size 0 [.i l,.i d,.i s,.s t,.s u,.s p]
 qP f f (
 qP a.size a.size (
 (0:Int)<=l/\l<(g.len:Int)/\
 ∃c:O,af b g.E (g.off+Int.toNat l*5+4)=some (O.v c)/\
 qP a.size a.size (
 (0:Int)<=d/\d<(c.len:Int)/\
 ∃n:Int,af b c.E (c.off+Int.toNat d*6)=some (vi n)/\
 ∃v:Int,af b c.E (c.off+Int.toNat d*6+1)=some (vi v)/\
 ∃w:Int,af b c.E (c.off+Int.toNat d*6+2)=some (vi w)/\
 ∃j:Int,af b c.E (c.off+Int.toNat d*6+3)=some (vi j)/\
 ∃x:O,af b c.E (c.off+Int.toNat d*6+4)=some (O.v x)/\
 ∃y:O,af b c.E (c.off+Int.toNat d*6+5)=some (O.v y)/\
 let o:J:=b.push (.cells (bC [.i (0:Int),.i (0:Int),.i (0:Int),.i (0:Int),.s O.nil,.s O.nil]) cV)
 af o c.E (c.off+Int.toNat d*6)=af b c.E (c.off+Int.toNat d*6)/\
 af o c.E (c.off+Int.toNat d*6+1)=af b c.E (c.off+Int.toNat d*6+1)/\
 af o c.E (c.off+Int.toNat d*6+2)=af b c.E (c.off+Int.toNat d*6+2)/\
 af o c.E (c.off+Int.toNat d*6+3)=af b c.E (c.off+Int.toNat d*6+3)/\
 af o c.E (c.off+Int.toNat d*6+4)=af b c.E (c.off+Int.toNat d*6+4)/\
 af o c.E (c.off+Int.toNat d*6+5)=af b c.E (c.off+Int.toNat d*6+5)/\
 af o a.size 1=af b a.size 1/\
 af o g.E (g.off+Int.toNat l*5+4)=af b g.E (g.off+Int.toNat l*5+4)/\
 af o a.size 0=af b a.size 0/\
 af o f 1=af b f 1/\
 qP b.size b.size (
 let C:J:=ah o b.size 0 [.i n,.i v,.i w,.i j,.s x,.s y]
 ∃B:Bool->J->Prop,
 (qP b.size b.size (
 ((n==(6:Int))=true->
 qP b.size b.size (
 ((j !=(0:Int))=true->
 qP a.size a.size (
 qP b.size b.size (
 (0:Int)<=(if(0:Int)>(cR (j -(1:Int)))then(0:Int)else(cR (j -(1:Int))))/\(if(0:Int)>(cR (j -(1:Int)))then(0:Int)else(cR (j -(1:Int))))<(p.len:Int)/\
 ∃h:Int,af C p.E (p.off+Int.toNat (if(0:Int)>(cR (j -(1:Int)))then(0:Int)else(cR (j -(1:Int))))*1)=some (vi h)/\
 HM (SV.box b.size cV [.i n,.i v,.i w,.i j,.s x,.s y]) (SV.box b.size cV [.i n,.i v,.i w,.i j,.s x,.s y]) (
 HM (SV.box a.size cQ [.i l,.i d,.i s,.s t,.s u,.s p]) (SV.box a.size cQ [.i l,.i d,.i s,.s t,.s u,.s p]) (
 HM (SV.box b1 db [.i (0:Int),.i (0:Int),.i (0:Int),.i (0:Int),.i (0:Int),.i (0:Int),.i (0:Int),.i (0:Int)]) (SV.box b1 db [.i (0:Int),.i (0:Int),.i (0:Int),.i (0:Int),.i (0:Int),.i (0:Int),.i (0:Int),.i (0:Int)]) (
 HM (SV.box f dK [.s m,.s g]) (SV.box f dK [.s m,.s g]) (
 B (h !=(0:Int)) C)))))))/\
 ((j !=(0:Int))=false->
 HM (SV.box b.size cV [.i n,.i v,.i w,.i j,.s x,.s y]) (SV.box b.size cV [.i n,.i v,.i w,.i j,.s x,.s y]) (
 HM (SV.box a.size cQ [.i l,.i d,.i s,.s t,.s u,.s p]) (SV.box a.size cQ [.i l,.i d,.i s,.s t,.s u,.s p]) (
 HM (SV.box b1 db [.i (0:Int),.i (0:Int),.i (0:Int),.i (0:Int),.i (0:Int),.i (0:Int),.i (0:Int),.i (0:Int)]) (SV.box b1 db [.i (0:Int),.i (0:Int),.i (0:Int),.i (0:Int),.i (0:Int),.i (0:Int),.i (0:Int),.i (0:Int)]) (
 HM (SV.box f dK [.s m,.s g]) (SV.box f dK [.s m,.s g]) (
 B false C)))))))/\
 ((n==(6:Int))=false->
 HM (SV.box b.size cV [.i n,.i v,.i w,.i j,.s x,.s y]) (SV.box b.size cV [.i n,.i v,.i w,.i j,.s x,.s y]) (
 HM (SV.box a.size cQ [.i l,.i d,.i s,.s t,.s u,.s p]) (SV.box a.size cQ [.i l,.i d,.i s,.s t,.s u,.s p]) (
 HM (SV.box b1 db [.i (0:Int),.i (0:Int),.i (0:Int),.i (0:Int),.i (0:Int),.i (0:Int),.i (0:Int),.i (0:Int)]) (SV.box b1 db [.i (0:Int),.i (0:Int),.i (0:Int),.i (0:Int),.i (0:Int),.i (0:Int),.i (0:Int),.i (0:Int)]) (
 HM (SV.box f dK [.s m,.s g]) (SV.box f dK [.s m,.s g]) (
 B false C)))))))/\
 (∀(iI:Bool)(D:J),B iI D->
 aL cp 31 [vp e 0] D λX A=>
 dR [b.size,a.size,b1,f] D A/\
 ∃R:Int,af A i 0=some (vi R)/\
 dZ A i 0 1/\
 let h:J:=ah A i 0 [.i (cR (R+(1:Int)))]
 dR [b.size,a.size,b1,f] A h/\
 ∃G:Int,af h e 3=some (vi G)/\
 ((G==(3:Int))=true->
 qP b.size b.size (
 aL cp 44 [vp i 0,vi n,vb iI] h λV q=>
 dR [b.size,a.size,b1,f] h q/\
 ∃H:Int,af q e 3=some (vi H)/\
 ∃I:Int,af q e 4=some (vi I)/\
 ∃K:Int,af q e 5=some (vi K)/\
 ∃L:Int,af q e 6=some (vi L)/\
 ∃M:O,af q e 7=some (O.v M)/\
 ∃N:O,af q e 8=some (O.v N)/\
 ∃P:O,af q e 9=some (O.v P)/\
 aL cp 43 [vp i 0,.agg #[vi H,vi I,vi K,vi L,O.v M,O.v N,O.v P]] q λQ E=>
 dR [b.size,a.size,b1,f] q E/\
 HM (SV.box b1 db [.i (0:Int),.i (0:Int),.i (0:Int),.i (0:Int),.i (0:Int),.i (0:Int),.i (0:Int),.i (0:Int)]) (SV.box b1 db [.i (0:Int),.i (0:Int),.i (0:Int),.i (0:Int),.i (0:Int),.i (0:Int),.i (0:Int),.i (0:Int)]) (
 HM (SV.box f dK [.s m,.s g]) (SV.box f dK [.s m,.s g]) (
 z E/\μ0 E<μ0 a))))/\
 ((G==(3:Int))=false->
 ∃H:Int,af h e 3=some (vi H)/\
 ((H==(0:Int))=true->
 qP b.size b.size (
 aL cp 44 [vp i 0,vi n,vb iI] h λV q=>
 dR [b.size,a.size,b1,f] h q/\
 ∃I:Int,af q e 3=some (vi I)/\
 ∃K:Int,af q e 4=some (vi K)/\
 ∃L:Int,af q e 5=some (vi L)/\
 ∃M:Int,af q e 6=some (vi M)/\
 ∃N:O,af q e 7=some (O.v N)/\
 ∃P:O,af q e 8=some (O.v P)/\
 ∃Q:O,af q e 9=some (O.v Q)/\
 aL cp 43 [vp i 0,.agg #[vi I,vi K,vi L,vi M,O.v N,O.v P,O.v Q]] q λW E=>
 dR [b.size,a.size,b1,f] q E/\
 HM (SV.box b1 db [.i (0:Int),.i (0:Int),.i (0:Int),.i (0:Int),.i (0:Int),.i (0:Int),.i (0:Int),.i (0:Int)]) (SV.box b1 db [.i (0:Int),.i (0:Int),.i (0:Int),.i (0:Int),.i (0:Int),.i (0:Int),.i (0:Int),.i (0:Int)]) (
 HM (SV.box f dK [.s m,.s g]) (SV.box f dK [.s m,.s g]) (
 z E/\μ0 E<μ0 a))))/\
 ((H==(0:Int))=false->
 ∃E:Int,af h e 3=some (vi E)/\
 ∃I:Int,af h e 4=some (vi I)/\
 ∃K:Int,af h e 5=some (vi K)/\
 ∃L:Int,af h e 6=some (vi L)/\
 ∃M:O,af h e 7=some (O.v M)/\
 ∃N:O,af h e 8=some (O.v N)/\
 ∃P:O,af h e 9=some (O.v P)/\
 aL cp 43 [vp i 0,.agg #[vi E,vi I,vi K,vi L,O.v M,O.v N,O.v P]] h λQ q=>
 dR [b.size,a.size,b1,f] h q/\
 HM (SV.box b1 db [.i (0:Int),.i (0:Int),.i (0:Int),.i (0:Int),.i (0:Int),.i (0:Int),.i (0:Int),.i (0:Int)]) (SV.box b1 db [.i (0:Int),.i (0:Int),.i (0:Int),.i (0:Int),.i (0:Int),.i (0:Int),.i (0:Int),.i (0:Int)]) (
 HM (SV.box f dK [.s m,.s g]) (SV.box f dK [.s m,.s g]) (
 z q/\μ0 q<μ0 a)))))))))))/\
 ((F==(3:Int))=false->
 ∃b:Int,af a i 0=some (vi b)/\
 ∃c:Int,af a i 1=some (vi c)/\
 ∃d:Int,af a i 2=some (vi d)/\
 ∃h:Int,af a i 3=some (vi h)/\
 ∃j:Int,af a i 4=some (vi j)/\
 ∃k:Int,af a i 5=some (vi k)/\
 ∃l:Int,af a i 6=some (vi l)/\
 ∃n:Int,af a i 7=some (vi n)/\
 qP b1 b1 (
 let o:J:=ah a b1 0 [.i b,.i c,.i d,.i h,.i j,.i k,.i l,.i n]
 qP b1 b1 (
 S (.tuple #[.agg #[vi b,vi c,vi d,vi h,vi j,vi k,vi l,vi n],vb true]) o))))
def va(e:O)(f:O)(aY:Int)(m:J)(R:Value->J->Prop):Prop:=
 let a:J:=m.push (.cells (bC [.s e,.s f]) dK)
 let s:J:=a.push (.cells (bC [.i (0:Int),.i (0:Int),.i (0:Int),.i (0:Int),.i (0:Int),.i (0:Int),.i (0:Int),.i (0:Int)]) db)
 qP m.size m.size (
 aL cp 28 [.agg #[O.v e,O.v f]] s λv b=>
 dR [a.size,m.size] s b/\
 ∃i:Bool,v=vb i/\
 ((!i)=true->
 qP a.size a.size (
 let c:J:=ah b a.size 0 [.i (0:Int),.i (0:Int),.i (0:Int),.i (0:Int),.i (0:Int),.i (0:Int),.i (0:Int),.i (0:Int)]
 qP a.size a.size (
 R (.tuple #[.agg #[vi (0:Int),vi (0:Int),vi (0:Int),vi (0:Int),vi (0:Int),vi (0:Int),vi (0:Int),vi (0:Int)],vb false]) c)))/\
 ((!i)=false->
 ((decide (aY<(0:Int)))=true->
 qP a.size a.size (
 let c:J:=ah b a.size 0 [.i (0:Int),.i (0:Int),.i (0:Int),.i (0:Int),.i (0:Int),.i (0:Int),.i (0:Int),.i (0:Int)]
 qP a.size a.size (
 R (.tuple #[.agg #[vi (0:Int),vi (0:Int),vi (0:Int),vi (0:Int),vi (0:Int),vi (0:Int),vi (0:Int),vi (0:Int)],vb false]) c)))/\
 ((decide (aY<(0:Int)))=false->
 ((decide (aY>(40:Int)))=true->
 qP a.size a.size (
 let c:J:=ah b a.size 0 [.i (0:Int),.i (0:Int),.i (0:Int),.i (0:Int),.i (0:Int),.i (0:Int),.i (0:Int),.i (0:Int)]
 qP a.size a.size (
 R (.tuple #[.agg #[vi (0:Int),vi (0:Int),vi (0:Int),vi (0:Int),vi (0:Int),vi (0:Int),vi (0:Int),vi (0:Int)],vb false]) c)))/\
 ((decide (aY>(40:Int)))=false->
 qP m.size m.size (
 qP m.size m.size (
 qP m.size m.size (
 (aL cp 29 [O.v e] b λw c=>
 dR [a.size,m.size] b c/\
 ∃j:Int,w=vi j/\
 af c m.size 0=af b m.size 0/\
 af c m.size 1=af b m.size 1/\
 af c m.size 0=af b m.size 0/\
 af c m.size 1=af b m.size 1/\
 (aL cp 30 [.agg #[O.v e,O.v f],vi aY] c λx d=>
 dR [a.size,m.size] c d/\
 ∃k:Int,∃l:Int,∃n:Int,∃o:Int,∃p:O,∃q:O,∃r:O,x=.agg #[vi k,vi l,vi n,vi o,O.v p,O.v q,O.v r]/\
 af d m.size 0=af c m.size 0/\
 af d m.size 1=af c m.size 1/\
 let g:J:=d.push (.cells (bC [.s O.nil,.s O.nil,.i (0:Int),.i (0:Int),.i (0:Int),.i (0:Int),.i (0:Int),.s O.nil,.s O.nil,.s O.nil]) ba)
 af g m.size 0=af d m.size 0/\
 af g m.size 1=af d m.size 1/\
 af g m.size 0=af d m.size 0/\
 af g m.size 0=af d m.size 0/\
 af g m.size 1=af d m.size 1/\
 qP d.size d.size (
 let h:J:=ah g d.size 0 [.s e,.s f,.i j,.i k,.i l,.i n,.i o,.s p,.s q,.s r]
 let t:J:=h.push (.cells (bC [.i (0:Int),.i (0:Int),.i (0:Int),.i (0:Int),.i (0:Int),.i (0:Int),.i (0:Int),.i (0:Int)]) db)
 qP d.size d.size (
 aL cp 43 [vp h.size 0,.agg #[vi k,vi l,vi n,vi o,O.v p,O.v q,O.v r]] t λy u=>
 dR [d.size,a.size,m.size] t u/\
 rZ d.size h.size a.size m.size e f u R)))/\
 (let d:J:=c.push (.cells (bC [.s O.nil,.s O.nil,.i (0:Int),.i (0:Int),.i (0:Int),.i (0:Int),.i (0:Int),.s O.nil,.s O.nil,.s O.nil]) ba)
 af d m.size 0=af c m.size 0/\
 af d m.size 1=af c m.size 1/\
 af d m.size 0=af c m.size 0/\
 af d m.size 0=af c m.size 0/\
 af d m.size 1=af c m.size 1/\
 aL cp 30 [.agg #[O.v e,O.v f],vi aY] d λx g=>
 dR [c.size,a.size,m.size] d g/\
 ∃k:Int,∃l:Int,∃n:Int,∃o:Int,∃p:O,∃q:O,∃r:O,x=.agg #[vi k,vi l,vi n,vi o,O.v p,O.v q,O.v r]/\
 af g m.size 0=af d m.size 0/\
 af g m.size 1=af d m.size 1/\
 qP c.size c.size (
 let h:J:=ah g c.size 0 [.s e,.s f,.i j,.i k,.i l,.i n,.i o,.s p,.s q,.s r]
 let t:J:=h.push (.cells (bC [.i (0:Int),.i (0:Int),.i (0:Int),.i (0:Int),.i (0:Int),.i (0:Int),.i (0:Int),.i (0:Int)]) db)
 qP c.size c.size (
 aL cp 43 [vp h.size 0,.agg #[vi k,vi l,vi n,vi o,O.v p,O.v q,O.v r]] t λy u=>
 dR [c.size,a.size,m.size] t u/\
 rZ c.size h.size a.size m.size e f u R))))/\
 (let c:J:=b.push (.cells (bC [.s O.nil,.s O.nil,.i (0:Int),.i (0:Int),.i (0:Int),.i (0:Int),.i (0:Int),.s O.nil,.s O.nil,.s O.nil]) ba)
 af c m.size 0=af b m.size 0/\
 af c m.size 1=af b m.size 1/\
 af c m.size 0=af b m.size 0/\
 af c m.size 0=af b m.size 0/\
 af c m.size 1=af b m.size 1/\
 aL cp 29 [O.v e] c λw d=>
 dR [b.size,a.size,m.size] c d/\
 ∃u:Int,w=vi u/\
 af d m.size 0=af c m.size 0/\
 af d m.size 1=af c m.size 1/\
 af d m.size 0=af c m.size 0/\
 af d m.size 1=af c m.size 1/\
 aL cp 30 [.agg #[O.v e,O.v f],vi aY] d λx g=>
 dR [b.size,a.size,m.size] d g/\
 ∃j:Int,∃k:Int,∃l:Int,∃n:Int,∃o:O,∃p:O,∃q:O,x=.agg #[vi j,vi k,vi l,vi n,O.v o,O.v p,O.v q]/\
 af g m.size 0=af d m.size 0/\
 af g m.size 1=af d m.size 1/\
 qP b.size b.size (
 let h:J:=ah g b.size 0 [.s e,.s f,.i u,.i j,.i k,.i l,.i n,.s o,.s p,.s q]
 let r:J:=h.push (.cells (bC [.i (0:Int),.i (0:Int),.i (0:Int),.i (0:Int),.i (0:Int),.i (0:Int),.i (0:Int),.i (0:Int)]) db)
 qP b.size b.size (
 aL cp 43 [vp h.size 0,.agg #[vi j,vi k,vi l,vi n,O.v o,O.v p,O.v q]] r λy t=>
 dR [b.size,a.size,m.size] r t/\
 rZ b.size h.size a.size m.size e f t R))))))))))
def Ba(a:O)(b:O)(aY:Int)(m:J)(R:Value->J->Prop)(d:va a b aY m R):aL cp 22 [.agg #[O.v a,O.v b],vi aY] m R:=
 pV (o:=⟨[(6,[])],[(11,[(10,.T)])],[(6,[105,103]),(11,[110,109,105,103])]⟩) (d:=101) (r:=[.cell 4 51,.tmp 5]) (a:=[.agg [.s a,.s b],.c (.i aY)]) Kq VO VT Tryz.func22 (m:=FH Tryz.f22) (by kernel_rfl) (by kernel_rfl) (by kernel_rfl) (by kernel_rfl) aJ (by kernel_rfl) (Eq.mp (by kernel_rfl) d)
def Na{U M m2:J}{R K fr:O}{b:cq}{aY:Int}{ro:Nat->Nat}{j d b1 v:Nat}(av:gP b)(hm:0<=aY/\aY<=40)(au:eV M R K b)(a2:N U M)(aW:U.size<=b1/\b1<M.size)(a7:v<M.size)(k0:af M v 1=some (O.v K))(bb:M.size<=d)(a9:j≠d)
 (aQ:rl M ro m2 j ba (IB R K (bz b) (cD b aY) .nil .nil fr) .nil .nil fr [] [] [bg b 0 0 []])(r2:ro d=9)(aN:cx m2 d db (NB (iS b (cD b aY) 0))):
 rZ j d b1 v R K m2 (λc G=>c=.tuple #[Fm (lM b aY),vb true]/\N U G):=by
 unfold rZ
 simp -zeta only[aC,aB]
 have aj:=vT av hm
 refine Nk (λ(c:Nat) G=>c<=100000/\(∀w,w<c->(ar b w (cD b aY)).bW=3)/\cx G d db (NB (iS b (cD b aY) c))/\
  ∃h g f e,rl M h G j ba (IB R K (bz b) (ar b c (cD b aY)) g f e) g f e (ar b c (cD b aY)).bd (ar b c (cD b aY)).heap (ar b c (cD b aY)).aA/\h d=9)
  (λc=>100000 -c) 0 ⟨eY _,λw hj=>absurd hj (HI _),aN,ro,.nil,.nil,fr,aQ,r2⟩ ?_
 rintro c i aO μ ⟨hk,ax,s,a5,bd,a_,S,n,r3⟩ a4
 have aw:=sX c aj
 have T:=sY c aj (vU b aY) V
 have az:=AR b (cD b aY) c
 refine⟨_,n.box.bV 3,λh1=>?_,λh1=>?_⟩
 ·have P:(ar b c (cD b aY)).bW=3:=by simpa using h1
  have a8:=JV av hm hk P
  obtain⟨fs,z,am,al,ac,pc,aR,w,hf,F,ea⟩:=n.Xy au aw P T.IN
  have hl:=F.Yv
  have hs:=F.sm
  have e1:cR ((S.len:Int) -1)=(fs.length:Int):=by rw[aP V V];omega
  have e2:Int.toNat (fs.length:Int)=fs.length:=V
  have g9:af i j 9=some (O.v S):=n.box.bV 9
  refine⟨S,g9,S,g9,?_⟩
  rw[e1,e2]
  refine⟨V,V,_,F.g0,_,F.g1,_,F.g2,am,F.g3,al,F.g4,ac,F.g5,?_⟩
  intro m4 g
  have x5:N i g:=((N.az i).aN _).ah (ad _) _ _
  have s5:g.size=i.size+1:=by simp[g,m4,ay]
  have kF:cx g i.size cQ [.i z.eu,.i z.pc,.i z.dst,.s am,.s al,.s ac]:=cx.ah (m:=m4) (o:=0) (r:=[.i z.eu,.i z.pc,.i z.dst,.s am,.s al,.s ac]) (cx.push i _ _)
  clear_value g
  have e:=F.ext x5
  refine⟨F.eu.1,F.eu.2,pc,e.cJ,F.WI.1,F.WI.2,_,e.i0,_,e.i1,_,e.i2,_,e.i3,aR,e.i4,w,e.i5,?_⟩
  intro m6
  have q:N g m6:=(N.az g).aN _
  have a3:af g v 1=some (O.v K):=x5.af (n.ct.af k0)
  refine⟨q.bZ e.i0,q.bZ e.i1,q.bZ e.i2,q.bZ e.i3,q.bZ e.i4,q.bZ e.i5,q.bZ (kF.bV 1),q.bZ e.cJ,q.bZ (kF.bV 0),q.bZ a3,?_⟩
  intro B
  have x7:N g B:=q.ah (ad _) _ _
  have s7:B.size=g.size+1:=by simp[B,m6,ay]
  clear_value B
  have aM:=x5.trans x7
  have F7:=e.ext x7
  refine⟨λh G=>h=mf b (ar b c (cD b aY))/\G=B,⟨λZ=>⟨λq7=>?_,λq7=>?_⟩,λZ=>?_⟩,?_⟩
  ·have u:(kA b (ar b c (cD b aY))).op=6:=by simpa using Z
   obtain⟨H,p2⟩:=F.bH u
   have E:=F.lI
   have A:(kA b (ar b c (cD b aY))).bH≠0:=by simpa using q7
   have C:=F.br.len
   obtain⟨y,x⟩:=ag (l:=z.br) (k:=((kA b (ar b c (cD b aY))).bH -1).toNat) V
   have t:D z.br ((kA b (ar b c (cD b aY))).bH -1)=y:=CK x
   rw[aP V V,ae V]
   refine⟨V,V,y,F7.br.D x,?_,rfl⟩
   rw[ea]
   by_cases f:y=0
   ·rw[HJ (λp=>p.2.2 (by rw[t];exact f))];simp[f]
   ·rw[tm (show _/\_/\_ from⟨u,A,by rw[t];exact f⟩)];simp[f]
  ·refine⟨?_,rfl⟩
   rw[ea,HJ (λp=>p.2.1 (by simpa using q7))]
  ·refine⟨?_,rfl⟩
   rw[ea,HJ (λp=>by simp at Z;exact Z p.1)]
  rintro _ M7 ⟨rfl,aT⟩
  have aU:=aT.symm
  subst aU
  obtain⟨L7,_⟩:=n.ext aM
  have B7:=s.ext aM
  have z3:=n.ct.size
  have z7:=B7.lt
  have zb:=s.lt
  have aq:yB a5 B [g.size,i.size,b1,v]:=λh A=>by
   simp at A;rcases A with rfl|rfl|rfl|rfl
   ·exact⟨V,n.new _ V⟩
   ·exact⟨V,n.new _ V⟩
   ·exact⟨V,n.iY _ V⟩
   ·exact⟨V,n.iY _ V⟩
  have ap:∀h∈[g.size,i.size,b1,v],h<B.size/\h≠d:=λh A=>⟨(aq h A).1,by simp at A;omega⟩
  refine(Ey L7 au aw T.IN (by have:=T.heap;omega) (by have:=T.bd;omega)).mono ?_
  rintro _ H ⟨aD,aA,ai,ab,L,t8⟩
  have z8:=t8.size
  have B8:=B7.congr (t8.dO _ z7 (by rw[r3];simp))
  have Q:aD d=9:=by rw[t8.jU _ z7];exact r3
  rw[<-mK]at L
  have aV:=sY (c+1) aj (vU b aY) V
  have bc:=az.ar
  refine⟨t8.dB aq,_,B8.bV 0,B8.dZ (by simp[NB]),?_⟩
  rw[aP V V]
  intro I
  have W:eJ d H I:=(eJ.az d H).ah _ _
  have B9:cx I d db (NB {iS b (cD b aY) c with ar:=(iS b (cD b aY) c).ar+1}):=B8.ah (m:=U) (o:=0) (r:=[.i ((iS b (cD b aY) c).ar+1)])
  have L9:=L.Om Q W
  have s9:I.size=H.size:=ay _ _ _ _
  clear_value I
  have ah:∀{f:J},H.size<=f.size->∀h∈[g.size,i.size,b1,v],h<f.size/\h≠d:=λhM h A=>⟨by have:=(ap h A).1;omega,(ap h A).2⟩
  have aX:ab.len=(ar b (c+1) (cD b aY)).aA.length:=by
   obtain⟨a6,E⟩:=L.aA;have:=E.p7.len;rw[df E.size,E.len]at this;omega
  have aZ:(ar b (c+1) (cD b aY)).heap≠[]->ai.E≠d:=λa0 aS=>by
   have:=(L.heap.E (a:=0) (List.length_pos_iff.2 a0)).1;rw[aS,Q]at this;omega
  have gW:∀{f:J}{C:lG},eJ d H f->cx f d db (NB C)->Ns C (ar b (c+1) (cD b aY))=iS b (cD b aY) (c+1)->
   ∃aE:Int,af f j 3=some (vi aE)/\∃aF:Int,af f j 4=some (vi aF)/\∃aG:Int,af f j 5=some (vi aG)/\∃aH:Int,af f j 6=some (vi aH)/\
   ∃aI:O,af f j 7=some (O.v aI)/\∃aJ:O,af f j 8=some (O.v aJ)/\∃aK:O,af f j 9=some (O.v aK)/\
   aL cp 43 [vp d 0,.agg #[vi aE,vi aF,vi aG,vi aH,O.v aI,O.v aJ,O.v aK]] f λbe ak=>
   dR [g.size,i.size,b1,v] f ak/\aO ak/\μ ak<μ i:=λ{f C} oM BM E=>by
   have u:=L.Om Q oM
   refine⟨_,u.box.bV 3,_,u.box.bV 4,_,u.box.bV 5,_,u.box.bV 6,aA,u.box.bV 7,ai,u.box.bV 8,ab,u.box.bV 9,(Ho BM u.heap.jk aZ (by have:=aV.heap;omega) aX _ _ _ _).mono ?_⟩
   rintro _ t ⟨rfl,y,x⟩
   rw[E]at y
   refine⟨x.dv (ah oM.size),a4 (c+1) t ⟨V,λw hj=>?_,y,aD,aA,ai,ab,u.Om Q x,Q⟩ (by show 100000 -(c+1)<100000 -c;omega)⟩
   rcases bA w c with h4|h4
   ·exact ax w h4
   ·have:w=c:=V
    rw[this];exact P
  have es:∀C,(if(ar b (c+1) (cD b aY)).bW=3\/(ar b (c+1) (cD b aY)).bW=0 then rC {iS b (cD b aY) c with ar:=(iS b (cD b aY) c).ar+1} (kA b (ar b c (cD b aY))).op (mf b (ar b c (cD b aY)))else{iS b (cD b aY) c with ar:=(iS b (cD b aY) c).ar+1})=C->
   Ns C (ar b (c+1) (cD b aY))=iS b (cD b aY) (c+1):=λC E=>by
   rw[<-E,mK];rfl
  have NM:∀{aa:Value->J->Prop},(∀t,eJ d H t->cx t d db (NB (rC {iS b (cD b aY) c with ar:=(iS b (cD b aY) c).ar+1} (kA b (ar b c (cD b aY))).op (mf b (ar b c (cD b aY)))))->dR [g.size,i.size,b1,v] I t->aa (.tuple #[]) t)->
   aL cp 44 [vp d 0,vi (kA b (ar b c (cD b aY))).op,vb (mf b (ar b c (cD b aY)))] I aa:=λ{aa} hK=>by
   have a1:NE (c+1) {iS b (cD b aY) c with ar:=(iS b (cD b aY) c).ar+1}:=by
    obtain⟨t1,t2,t3,t4,t5⟩:=az;exact⟨by simp only[];omega,by simp only[];omega,by simp only[];omega,by simp only[];omega,by simp only[];omega⟩
   refine(KO B9 _ _ (c+1) V a1).mono ?_
   rintro _ t ⟨rfl,y,x⟩
   exact hK t (W.trans x) y (x.dv (ah (tj s9.symm)))
  refine⟨W.dv (ah (ad _)),_,L9.box.bV 3,λX=>?_,λX=>⟨_,L9.box.bV 3,λY=>?_,λY=>?_⟩⟩
  ·refine NM λt x y ao=>⟨ao,gW x y (es _ ?_)⟩
   rw[an (Or.inl (by simpa using X))]
  ·refine NM λt x y ao=>⟨ao,gW x y (es _ ?_)⟩
   rw[an (Or.inr (by simpa using Y))]
  ·refine gW W B9 (es _ ?_)
   rw[ae (λp=>by simp at X Y;rcases p with p|p;exact X p;exact Y p)]
 ·have P:(ar b c (cD b aY)).bW≠3:=by simpa using h1
  refine⟨_,s.bV 0,_,s.bV 1,_,s.bV 2,_,s.bV 3,_,s.bV 4,_,s.bV 5,_,s.bV 6,_,s.bV 7,?_⟩
  intro B
  rw[Av hk P ax]
  exact⟨rfl,(a2.trans n.ct).ah aW.1 _ _⟩
def I8(e b1 b:Nat)(aY:Int)(f p g:O)(a:J)(R:Value->J->Prop):Prop:=
 let c:J:=a.push (.cells (bC [.i (0:Int),.i (0:Int),.i (0:Int),.i (0:Int),.i (0:Int),.i (0:Int),.i (0:Int),.i (0:Int)]) db)
 aL cp 43 [vp a.size 0,.agg #[vi 3,vi 0,vi 0,vi aY,O.v .nil,O.v .nil,O.v g]] c λh d=>
 dR [e,b1,b] c d/\rZ e a.size b1 b f p d R
def HT{b:J}{f p:O}{a:cq}(aa:eV b f p a)(aY:Int):uR cp 22 [.agg #[O.v f,O.v p],vi aY] b (.tuple #[Fm (pG a aY).c,vb (pG a aY).ok]):=by
 apply Ba;unfold va;simp -zeta only[aC,aB];intro q w;have T:N b w:=((N.az b).aN _).aN _;have s1:q.size=b.size+1:=by simp[q]
 have s2:w.size=b.size+2:=by simp[w,s1]
 have kI:cx w b.size dK [.s f,.s p]:=(cx.push b _ _).ext (N.push q _);clear_value w;have S:∀u∈[q.size,b.size],u<w.size:=bR;have X:∀{e:J},N w e->¬(gP a/\0<=aY/\aY<=40)->((.tuple #[.agg #[vi (0:Int),vi (0:Int),vi (0:Int),vi (0:Int),vi (0:Int),vi (0:Int),vi (0:Int),vi (0:Int)],vb false]:Value)=.tuple #[Fm (pG a aY).c,vb (pG a aY).ok]/\
  N b (ah e q.size 0 [.i (0:Int),.i (0:Int),.i (0:Int),.i (0:Int),.i (0:Int),.i (0:Int),.i (0:Int),.i (0:Int)])):=λh ar=>by
  rw[pG,ae ar];exact⟨rfl,(T.trans h).ah V _ _⟩
 refine(sD (aa.ext T)).aK (N.az _) S λu e l h _=>⟨u,rfl,λL=>X h (λc=>nb l L c.1),λL=>⟨λP=>X h (λc=>by simp at P;omega),λP=>⟨λQ=>X h (λc=>by simp at Q;omega),λQ=>?_⟩⟩⟩;have A:=yb l L;have hm:0<=aY/\aY<=40:=by simp at P Q;omega
 have ac:=T.trans h;have s3:=h.size;have C:=aa.ext ac;have U:=kI.ext h;have ht:=A.lY.types;have cc:∀{M:J},N e M->uR cp 29 [O.v f] M (vi (bz a)):=λB=>mQ (C.ext B).aT ht.len (λc hd=>IL ht c hd);have ks:∀{M j:J},N e M->N M j->(af j b.size 0=af M b.size 0/\af j b.size 1=af M b.size 1):=λy z=>⟨z.bZ ((U.ext y).bV 0),z.bZ ((U.ext y).bV 1)⟩;have sm:∀{M j:J},N e M->N M j->dR [q.size,b.size] M j:=λy z=>z.dv λu l=>y.lt (h.lt (S u l));have Y:∀{M j:J}{nb:Nat},N e M->N M j->nb<M.size->dR [nb,q.size,b.size] M j:=λy z aq=>z.dv λu l=>by
  rcases List.mem_cons.1 l with rfl|l
  ·exact aq
  ·exact y.lt (h.lt (S u l))
 have au:(pG a aY)=⟨lM a aY,true⟩:=by rw[pG,an ⟨A,hm⟩]
 rw[au];have W:∀{M c:J}{d:O}{b1 b2 b3 b4 k t:Nat},N e M->d=.mk b4 0 1 1->oE M c b1 b2 b3 k (bg a 0 0 []).ao (bg a 0 0 []).aQ (bg a 0 0 []).br->(b4≠b1/\b4≠b2/\b4≠b3/\M.size<=b4/\b4<c.size)->cx c b4 cQ [.i 0,.i 0,.i 0,.s (.mk b1 0 k k),.s (.mk b2 0 k k),.s (.mk b3 0 k k)]->
  (M.size<=t/\t≠b1/\t≠b2/\t≠b3/\t≠b4)->cx c t ba ([.s f,.s p,.i (bz a)]++[.i 3,.i 0,.i 0,.i aY,.s .nil,.s .nil,.s d])->I8 t q.size b.size aY f p d c (λv g=>v=.tuple #[Fm (lM a aY),vb true]/\N b g):=λ{M c d b1 b2 b3 b4 k t} B n g H v hmb kb=>by
  have zM:=B.size
  have z9:=g.ext.size
  have Z:=LR n g H v hmb kb
  have aw:=kb.lt
  unfold I8
  intro E
  have av:N c E:=(N.az c).aN _
  have az:E.size=c.size+1:=by simp[E]
  have al:cx E c.size db (NB ⟨0,0,0,0,0,0,0,0⟩):=cx.push c _ _
  clear_value E
  have r0:=Z.new c.size (ad _)
  have ao:=(Z.ext av).1.Tn (sb:=c.size) (N.az M) r0 V V
  refine(Ho (s:=cD a aY) al ⟨rfl,λk x i=>by simp[cD]at i⟩ (λi=>absurd rfl i) (by simp[cD]) (by rw[n];simp[cD]) _ _ _ _).mono ?_
  rintro _ ax ⟨rfl,am,ak⟩
  refine⟨ak.dv bR,?_⟩
  exact Na A hm (C.ext B) (ac.trans B) ⟨V,V⟩ V (B.af (U.bV 1)) V V (ao.Om (gX _ _ _) ak) (gX _ _ _) am
 refine⟨(cc (N.az _)).mono ?_,?_⟩
 ·rintro _ x ⟨rfl,i⟩;have I:=ks (N.az _) i;refine⟨sm (N.az _) i,_,rfl,I.1,I.2,I.1,I.2,?_,?_⟩
  ·refine(iG (C.ext i) A aY).mono ?_;rintro _ F ⟨d,rfl,G,b1,b2,b3,b4,k,n,g,H,v⟩;have ai:=i.trans G;have ag:=ks i G;refine⟨sm i G,_,_,_,_,_,_,_,rfl,ag.1,ag.2,?_⟩;intro m8;have R:N F m8:=(N.az F).aN _;have D:=ks ai R;refine⟨D.1,D.2,D.1,D.1,D.2,?_⟩;intro c;have K:N F c:=R.ah (ad _) _ _;have kb:cx c F.size ba ([.s f,.s p,.i (bz a)]++[.i 3,.i 0,.i 0,.i aY,.s .nil,.s .nil,.s d]):=cx.ah (m:=m8) (o:=0) (r:=[.s f,.s p,.i (bz a),.i 3,.i 0,.i 0,.i aY,.s .nil,.s .nil,.s d]) (cx.push F _ _);have ab:=g.lo;have s9:=K.size;have s7:=G.size;exact W i n (g.Ms K) V (v.ext K) V kb
  ·intro F;have R:N x F:=(N.az x).aN _;have aA:F.size=x.size+1:=by simp[F]
   have K:=i.trans R;have D:=ks i R;have kz:cx F x.size ba [.s .nil,.s .nil,.i 0,.i 0,.i 0,.i 0,.i 0,.s .nil,.s .nil,.s .nil]:=cx.push x _ _;refine⟨D.1,D.2,D.1,D.1,D.2,?_⟩;clear_value F;refine(iG (C.ext K) A aY).mono ?_;rintro _ ai ⟨d,rfl,G,b1,b2,b3,b4,k,n,g,H,v⟩;have ag:=ks K G;refine⟨Y K G V,_,_,_,_,_,_,_,rfl,ag.1,ag.2,?_⟩;intro aj;have ab:=g.lo;have ap:=g.box R (nb:=x.size) (ad _) V 0 [.s f,.s p,.i (bz a),.i 3,.i 0,.i 0,.i aY,.s .nil,.s .nil,.s d];have kb:cx aj x.size ba ([.s f,.s p,.i (bz a)]++[.i 3,.i 0,.i 0,.i aY,.s .nil,.s .nil,.s d]):=cx.ah (m:=ai) (o:=0) (r:=[.s f,.s p,.i (bz a),.i 3,.i 0,.i 0,.i aY,.s .nil,.s .nil,.s d]) (kz.ext G);have aD:aj.size=ai.size:=ay _ _ _ _;exact W i n ap V (v.congr (bt _ _ _ _ V)) V kb
 ·intro F;have x:N e F:=(N.az e).aN _;have aA:F.size=e.size+1:=by simp[F]
  have D:=ks (N.az _) x;have kz:cx F e.size ba [.s .nil,.s .nil,.i 0,.i 0,.i 0,.i 0,.i 0,.s .nil,.s .nil,.s .nil]:=cx.push e _ _;refine⟨D.1,D.2,D.1,D.1,D.2,?_⟩;clear_value F;refine(cc x).mono ?_;rintro _ ap ⟨rfl,i⟩;have G:=x.trans i;have I:=ks x i;have aD:=i.size;refine⟨Y x i V,_,rfl,I.1,I.2,I.1,I.2,?_⟩;refine(iG (C.ext G) A aY).mono ?_;rintro _ ag ⟨d,rfl,K,b1,b2,b3,b4,k,n,g,H,v⟩;have R:=ks G K;refine⟨Y G K V,_,_,_,_,_,_,_,rfl,R.1,R.2,?_⟩;intro ai;have ab:=g.lo;have aj:=g.box G (nb:=e.size) (ad _) V 0 [.s f,.s p,.i (bz a),.i 3,.i 0,.i 0,.i aY,.s .nil,.s .nil,.s d];have kb:cx ai e.size ba ([.s f,.s p,.i (bz a)]++[.i 3,.i 0,.i 0,.i aY,.s .nil,.s .nil,.s d]):=cx.ah (m:=ag) (o:=0) (r:=[.s f,.s p,.i (bz a),.i 3,.i 0,.i 0,.i aY,.s .nil,.s .nil,.s d]) (kz.ext (i.trans K));have aE:ai.size=ag.size:=ay _ _ _ _;exact W (N.az _) n aj V (v.congr (bt _ _ _ _ V)) V kb
def ZJ:TT:=TP++[(1000051,⟨.tuple [],[],0⟩)]
def VC:tp cp ZJ:=by
 unfold tp;kernel_rfl
def sH(b:Int)(c:Int)(d:Int)(e:Int)(f:Int)(g:Int)(h:Int)(i:Int)(j:Int)(k:Int)(l:Int)(n:Int)(o:Int)(p:Int)(q:Int)(r:Int)(m:J)(R:Value->J->Prop):Prop:=
 let a:J:=m.push (.cells (bC [.i b,.i c,.i d,.i e,.i f,.i g,.i h,.i i]) 51)
 let s:J:=a.push (.cells (bC [.i j,.i k,.i l,.i n,.i o,.i p,.i q,.i r]) 51)
 qP m.size m.size (
 qP a.size a.size (
 R (vb (b==j&&(c==k&&(d==l&&(e==n&&(f==o&&(g==p&&(h==q&&(i==r&&true))))))))) s))
def xQ(a:Int)(b:Int)(d:Int)(e:Int)(f:Int)(g:Int)(h:Int)(i:Int)(j:Int)(k:Int)(l:Int)(m:Int)(o:Int)(p:Int)(q:Int)(r:Int)(s:J)(R:Value->J->Prop)(t:sH a b d e f g h i j k l m o p q r s R):aL cp 24 [.agg #[vi a,vi b,vi d,vi e,vi f,vi g,vi h,vi i],.agg #[vi j,vi k,vi l,vi m,vi o,vi p,vi q,vi r]] s R:=
 pV (o:=⟨[],[],[]⟩) (d:=8) (r:=[.tmp 4]) (a:=[.agg [.i a,.i b,.i d,.i e,.i f,.i g,.i h,.i i],.agg [.i j,.i k,.i l,.i m,.i o,.i p,.i q,.i r]]) VC VO VT Tryz.func24 (m:=FH Tryz.f24) (by kernel_rfl) (by kernel_rfl) (by kernel_rfl) (by kernel_rfl) aJ (by kernel_rfl) (Eq.mp (by kernel_rfl) t)
section
def St.gV(s:St)(n:Int):St:={s with aY:=n}
section
variable{a:cq}{s:St}{f:aW}{x:Instr}{o:List Int}{b:List aW}
def jr.gV{n:Int}(h:jr a s f x o):jr a (s.gV n) f x o:=⟨h.nn,h.dst,h.nu,h.gL,h.cG,h.zero,h.ret,h.apply,h.Th,h.drop,h.Ct,h.load,h.Ax⟩
def Vt{P:St->Prop}{c:Prop}{i:Decidable c}{a b:St}(d:P a)(e:P b):P (ite c a b):=by split<;>assumption
structure TM(s t:St):Prop where
 aY:t.aY=s.aY
 bE:s.bE<=t.bE
 bd:s.bd<+:t.bd
 bW:t.bW=s.bW\/t.bW=0
def MJ:TM s (dJ a s b f x o):=by
 unfold dJ;simp only[];(repeat' refine Vt (P:=TM s) ?_ ?_);all_goals first|exact⟨rfl,cC _,PR _,Or.inl rfl⟩|exact⟨rfl,cC _,List.prefix_append _ _,Or.inl rfl⟩|exact⟨rfl,by simp only[];omega,PR _,Or.inl rfl⟩|(cases b.getLast?<;>exact⟨rfl,cC _,PR _,aJ⟩)
end
end
section
variable{a:List bQ}{w:Int}{c:lG}
def nz:List bQ->Int
 |[]=>0
 |c::a=>(if c.aS=0 then 0 else 1)+nz a
def Oj:∀a,0<=nz a
 |[]=>cC _
 |c::a=>by have:=Oj a;simp only[nz];split<;>omega
def Of:∀a,gK a<=nz a
 |[]=>cC _
 |c::a=>by have:=Of a;simp only[nz,gK];split<;>split<;>omega
def Gc:∀a g,nz (a++g)=nz a+nz g
 |[],g=>by simp[nz]
 |c::a,g=>by have:=Gc a g;simp only[nz,cA];omega
def Qm(n:Nat)(a:List bQ):nz (a.take n)<=nz a:=by
 have:=Gc (a.take n) (a.drop n);have:=Oj (a.drop n);rw[cT]at*;omega
def Ql:∀(a:List bQ)(b:Nat)(c:bQ),nz (a.set b c)<=nz a+1
 |[],_,_=>by simp[nz]
 |d::a,0,c=>by simp only[fj,nz];split<;>split<;>omega
 |d::a,b+1,c=>by have:=Ql a b c;simp only[fO,nz];omega
def Pw:∀{a:List bQ}{b:Nat}{d:bQ}(c:bQ),a[b]? =some d->d.aS≠0->nz (a.set b c)<=nz a
 |[],_,_,_,a,_=>by simp at a
 |d::a,0,_,c,e,hd=>by simp at e;subst e;simp only[fj,nz,ae hd];split<;>omega
 |d::a,b+1,_,c,e,hd=>by have:=Pw (a:=a) c (by simpa using e) hd;simp only[fO,nz];omega
def wt(c:bQ)(b:fQ a w):nz (a.set (ix w) c)<=nz a:=Pw c (bY b).1 (by have:=(bY b).2;omega)
def R1(a:List bQ)(b:Nat)(c:bQ):nz (gL a b c)<=nz a+1:=by
 unfold gL;split
 ·rw[Gc];simp only[nz];split<;>omega
 ·exact Ql _ _ _
def Ok:∀(b:List Int)(a:List bQ),(∀w∈b,fQ a w)->nz (il a b)<=nz a
 |[],_,_=>cC _
 |w::b,a,c=>by
  have d:=c w aX;exact tf (Ok b _ λv e=>⟨(c v (ai _ e)).1,(eH.lW d _).2 (c v (ai _ e)).2⟩) (wt _ d)
def EC:∀(n:Nat)(a:List bQ)(h:List Int),yM a+h.length<=n->nz (fY a h)<=nz a
 |n,a,[],_=>by rw[pK];exact cC _
 |0,a,w::r,c=>by simp at c
 |n+1,a,w::r,c=>by
  simp only[aZ]at c;rcases dt (fQ a w)with b|b
  ·obtain⟨f,g⟩:=bY b;by_cases d:(aG a w).aS=1
   ·have e:=iQ (d:=ic) f;simp only[an g,ic]at e;simp at e;rw[pL b d];exact tf (EC n _ _ (by simp[ic];omega)) (wt _ b)
   ·have e:=iQ (d:={aG a w with aS:=(aG a w).aS -1}) f;simp only[an g]at e;rw[an V]at e;rw[nP b d];exact tf (EC n _ _ (by simp only[Go.Proofs.YtgnjacfobdjeeaaGreat.eQ];omega)) (wt _ b)
  ·rw[nQ b];exact EC n _ _ V
def Oi{e:Nat->Int}(f:ft a e)(b:fQ a w):nz (apart a w)<=nz a:=by
 obtain⟨c,j⟩:=bY b;unfold Go.Proofs.YtgnjacfobdjeeaaGreat.apart;split
 ·exact tf (Qm _ _) (wt _ b)
 ·rename_i i;refine tf (Ok _ _ λv g=>?_) (wt {aG a w with aS:=(aG a w).aS -1} b);obtain⟨h,d⟩:=jT.1 g;have:=f.field (fL c) h d;refine⟨d,?_⟩;unfold eQ;by_cases e:ix v=ix w
  ·rw[e,eH.Bf c];show 0<(aG a w).aS -1;omega
  ·rw[eH.ne e];exact this.2
def DZ(f:aW)(x:Instr):Prop:=(x.op=6/\¬(x.bH≠0/\D f.br (x.bH -1)≠0))\/x.op=10
section
variable{d:cq}{b:St}{e:aW}{g:Instr}{aQ:List Int}{h:List aW}
def QK(a:dm d b)(h:e∈b.aA)(i:w∈e.br)(t:w≠0):∃c,b.heap[ix w]? =some c/\c.aS≠0:=by
 have n:=a.aA e h;have m:1000<=w:=by have:=n.br w i;omega
 apply de;intro q;have u:=a.px (ix w) λ⟨c,o,x⟩=>q ⟨c,o,V⟩;have r:∀{l:List Int},w∈l->0<fR l (ix w):=λ{l}=>by
  induction l with
  |nil=>simp
  |cons v l g=>
   have j:∀l:List Int,0<=fR l (ix w):=λl=>by
    induction l with
    |nil=>simp[fR]
    |cons v l g=>simp only[fR];split<;>omega
   intro f;simp only[fR];have:=j l;rcases List.mem_cons.1 f with rfl|f
   ·rw[an (by have:=jI m;omega)];omega
   ·have:=g f;split<;>omega
 have p:∀{l:List aW},e∈l->0<holds l (ix w):=λ{l}=>by
  induction l with
  |nil=>simp
  |cons k l g=>
   have j:∀l:List Int,0<=fR l (ix w):=λl=>by
    induction l with
    |nil=>simp[fR]
    |cons v l g=>simp only[fR];split<;>omega
   have s:∀l:List aW,0<=holds l (ix w):=λl=>by
    induction l with
    |nil=>simp[holds]
    |cons v l g=>have:=j v.br;simp only[holds];omega
   intro f;simp only[holds];have:=j k.br;have:=s l;rcases List.mem_cons.1 f with rfl|f
   ·have:=r i;omega
   ·have:=g f;omega
 have:=p h;omega
def Wb{l:List Int}{i:Int}(a:D l i≠0):D l i∈l:=by
 unfold D at*;rw[eM]at*;cases e:l[i.toNat]? with
 |none=>rw[e]at a;exact absurd rfl a
 |some v=>exact av e
def PB(a:List bQ)(c:bQ):c∈gL a (dg a) c:=by
 have:dg a<=a.length:=by
  induction a with
  |nil=>simp[dg]
  |cons d a b=>simp only[dg,aZ];split<;>omega
 unfold gL;split
 ·simp
 ·exact List.mem_iff_getElem?.2 ⟨dg a,eA V⟩
def Vs{P:St->Prop}{c:Prop}{i:Decidable c}{b d:St}(e:c->P b)(f:¬c->P d):P (ite c b d):=by
 split
 ·rename_i a;exact e a
 ·rename_i a;exact f a
def MD(b:St)(e:aW)(g:Instr)(t:St):Prop:=(DZ e g->∃c,c.aS=1/\t.heap=gL b.heap (dg b.heap) c)/\(¬DZ e g->nz t.heap<=nz b.heap)
def ML(a:dm d b)(j:e∈b.aA)(c:jr d b e g aQ):MD b e g (dJ d b h e g aQ):=by
 unfold dJ;simp only[];(repeat' refine Vs (P:=MD b e g) (λ_=>?_) (λ_=>?_));all_goals first
  |exact⟨λa=>by unfold DZ at a;omega,λ_=>cC _⟩
  |exact⟨λ_=>⟨_,rfl,rfl⟩,λa=>absurd (by unfold DZ;omega) a⟩
  |(cases h.getLast?<;>exact⟨λa=>by unfold DZ at a;omega,λ_=>cC _⟩)
  |refine⟨λa=>by unfold DZ at a;omega,λ_=>?_⟩
 all_goals first
  |exact wt _ (c.Th (by assumption)).1
  |exact wt _ (c.Ct (by assumption)).1
  |exact Oi a.heap (c.Ct (by assumption)).1
  |exact Oi a.heap (c.apply (by assumption)).1
  |exact tf (Qm _ _) (EC _ _ _ (ad _))
  |exact have f:=And.right (show g.bH≠0/\D e.br (g.bH -1)≠0 by assumption);let⟨_,i,k⟩:=QK a j (Wb f) f;Pw _ i k
structure SR(c:lG)(b:St):Prop where
 nz:nz b.heap<=c.fA
 mG:c.mG<=c.fA
 depth:1<=c.depth/\c.depth<=b.bE+1
 ez:0<=c.ez/\(c.ez=0<->c.fA=0)
def Qn:∀{a:List bQ},Go.Proofs.YtgnjacfobdjeeaaGreat.nz a=0->∀c∈a,c.aS=0
 |[],_,c,b=>by simp at b
 |f::a,e,c,b=>by
  have:=Oj a;simp only[Go.Proofs.YtgnjacfobdjeeaaGreat.nz]at e;rcases List.mem_cons.1 b with rfl|b
  ·apply de;intro d;rw[ae d]at e;omega
  ·exact Qn (by split at e<;>omega) c b
def JZ(g:nz b.heap<=c.fA)(j:c.mG<=c.fA)(k:1<=c.depth/\c.depth<=b.bE+1)(l:(b.aA.length:Int)<=b.bE+1)(m:0<=c.ez)(h:c.fA=0->c.ez=0)(i:c.ez=0->c.fA=0\/∃e∈b.heap,e.aS=1):SR (Ns c b) b:=by
 have o:=Of b.heap;have n:=Nh b.heap c.ez;refine⟨g,?_,?_,by simp only[Ns];omega,λa=>?_,λa=>?_⟩
 ·simp only[Ns,mx];split<;>omega
 ·simp only[Ns,mx];split<;>omega
 ·simp only[Ns]at a⊢;rcases i V with a|⟨e,d,f⟩
  ·exact a
  ·have:=Kr b.heap c.ez e d;omega
 ·simp only[Ns]at a⊢;have:=Oj b.heap;have f:=h a;rw[f,Ni];intro e d;have:=Qn V e d;omega
def QW(a:dm d b)(u:dm d (mT d b))(B:b.bW=3)(H:SR c b):SR (Ng d b c) (mT d b):=by
 have hd:=u.depth;have v:=H.depth;have z:=H.mG;have y:=H.nz;have k:=H.ez;have I:=Oj b.heap;unfold Ng;simp only[];rcases Km a B with⟨G,F,j⟩|⟨h,e,aQ,m,w,j⟩
 ·rw[j]at hd⊢;rw[ae (by simp only[];omega)];exact JZ y z v hd k.1 k.2.2 λa=>Or.inl (k.2.1 a)
 ·have t:e∈b.aA:=by rw[m];simp
  obtain⟨-,C,-,E⟩:=MJ (a:=d) (s:=b) (b:=h) (f:=e) (x:=kA d b) (o:=aQ);obtain⟨p,p2⟩:=ML (h:=h) a t w;rw[<-j]at C E p p2;rw[an V];have l:mf d b=decide ((kA d b).op=6/\(kA d b).bH≠0/\D e.br ((kA d b).bH -1)≠0):=by
   have r:b.aA.getLast?=some e:=by rw[m];simp
   unfold mf kA;rw[r]
  obtain⟨t1,t2,t3⟩:=PN {c with ar:=c.ar+1} (kA d b).op (mf d b);simp only[]at t1 t2 t3;by_cases i:DZ e (kA d b)
  ·have q:(rC {c with ar:=c.ar+1} (kA d b).op (mf d b)).fA=c.fA+1:=by
    unfold DZ at i;unfold rC;rw[l,ae (by simp only[au];omega),an V]
   obtain⟨g,A,n⟩:=p i;have:=R1 b.heap (dg b.heap) g;exact JZ (by rw[q,n];omega) V V hd V V λ_=>Or.inr ⟨g,by rw[n];exact PB _ _,A⟩
  ·have q:(rC {c with ar:=c.ar+1} (kA d b).op (mf d b)).fA=c.fA:=by
    unfold DZ at i;unfold rC;by_cases g:mf d b=true
    ·rw[an g]
    ·rw[l]at g;simp only[au]at g;rw[l,ae (by simpa using g),ae V];split
     ·rfl
     ·split<;>rfl
   have:=p2 i;exact JZ V V V hd V V λa=>Or.inl V
def Js(d:cq)(b:St):∀n,(ar d n b).bW≠3->∃k,k<=n/\(ar d k b).bW≠3/\∀j,j<k->(ar d j b).bW=3
 |0,a=>⟨0,ad _,a,λj g=>V⟩
 |n+1,a=>by
  by_cases c:(ar d n b).bW=3
  ·refine⟨n+1,ad _,a,λj g=>de λe=>?_⟩;have f:n=j+(n -j):=V;rw[f,AT,lU _ e]at c;exact e c
  ·obtain⟨k,f,e⟩:=Js d b n c;exact⟨k,V,e⟩
def PM{aY:Int}(c:gP d)(f:0<=aY/\aY<=40):SR (lM d aY) (nh d aY)/\0<=(lM d aY).iI:=by
 obtain⟨k,g,a,b⟩:=Js d (cD d aY) 100000 (by have:=(Fo c f).2.2;rwa[se]at this);have e:nh d aY=ar d k (cD d aY):=by
  have e:100000=k+(100000 -k):=V;rw[se,e,AT,lU _ a]
 rw[Av g a b,e];refine⟨?_,(AR d _ k).iI.1⟩;clear e g a;induction k with
 |zero=>rw[Kl];exact⟨by simp[ar,cD,Go.Proofs.YtgnjacfobdjeeaaGreat.nz],aJ,by simp[ar,cD],aJ⟩
 |succ k i=>
  have l:=sX k (vT c f);have h:=sX (k+1) (vT c f);rw[mK]at h⊢;exact QW l h (b k V) (i λj m=>b j V)
end
end
section
section
variable{m:J}
def sG(c:lG):uR cp 24 [Fm c,Fm c] m (vb true):=by
 apply xQ;unfold sH;simp -zeta only[aC,aB];intro d a;have b:N m a:=((N.az m).aN _).aN _;clear_value a;exact⟨aJ,b⟩
def C3{cJ:O}(h:DV m cJ):aL cp 21 [O.v cJ] m (DR [] m):=by
 apply wC;simp -zeta only[aC,aB];intro a;have e:N m a:=N.push m _;have t:a.size=m.size+1:=by simp[a]
 clear_value a;refine(xR (a:=[m.size]) (h.ext e) bR).mono λ_ o⟨d,p,n,k,g,b,f⟩=>⟨f.dv bR,d,p,k,g,?_⟩;intro q;have c:Le (bM [m.size] o) (bM [] q):=λr s v l=>by
  obtain⟨i,j⟩:=dV.1 l;exact dV.2 ⟨aJ,(aM (bt _ _ _ _ (by simpa using i)) _).trans j⟩
 exact⟨d,p,n,k,rfl,⟨b.aT.le c,iP.le c b.cB⟩,(e.trans f).ah (ad _) _ _⟩
def VB{a:cq}{aY:Int}(h:(pG a aY).ok=true):(gP a/\0<=aY/\aY<=40)/\pG a aY=⟨lM a aY,true⟩:=by
 have b:gP a/\0<=aY/\aY<=40:=by
  apply de;intro c;rw[pG,ae c]at h;simp at h
 exact⟨b,an b⟩
def xP{cJ:O}(h:DV m cJ):aL cp 5 [O.v cJ] m (ZH m):=by
 apply uq;simp(config:={maxSteps:=1000000}) -zeta only[aC,aB];refine⟨λ_=>⟨rfl,N.az _⟩,λ_=>?_⟩;refine(C3 h).mono λ_ c⟨v,p,a,k,e,w,A⟩=>⟨v,p,k,e,?_⟩;have q:eV c v p a:=⟨w.aT.le (bG _ _),iP.le (bG _ _) w.cB⟩;intro J i;have C:N c i:=(N.push c _).ah (ad _) _ _;have z3:i.size=c.size+1:=by simp[i,J,ay]
 clear_value i;refine(HT (q.ext C) k).mono λ_ j⟨e,s⟩=>⟨s.dv bR,_,_,_,_,_,_,_,_,_,e,?_⟩;intro K l;have S:N j l:=(N.push j _).ah (ad _) _ _;have z6:l.size=j.size+1:=by simp[l,K,ay]
 clear_value l;have z4:=s.size;have u:=(C.trans s).trans S;refine(HY (q.ext u) k).mono λ_ n⟨e,t⟩=>⟨t.dv bR,_,_,_,_,_,_,_,_,_,e,?_⟩;intro L d;have T:N n d:=(N.push n _).ah (ad _) _ _;have z9:d.size=n.size+1:=by simp[d,L,ay]
 clear_value d;have z7:=t.size;have x:∀g∈[n.size,j.size,c.size],g<d.size:=bR;have D:=(u.trans t).trans T;refine(sG (pG a k).c).aK (N.az _) x λX r _=>⟨_,rfl,?_⟩;have o:=D.trans r;refine⟨λh=>by simp at h,λ_=>⟨λh=>by simp at h,λ_=>⟨λU=>?_,λI=>?_⟩⟩⟩
 ·refine(sG (pG a k).c).aK r x λf b _=>⟨_,rfl,λ_=>⟨aJ,(A.trans o).trans b⟩,λh=>by simp at h⟩
 obtain⟨b,E⟩:=VB (a:=a) (aY:=k) (by simpa using I);obtain⟨M,H⟩:=PM b.1 b.2;have yz:=r.size;refine(HQ (q.ext o) k).mono λ_ y⟨Q,e,W,B⟩=>⟨B.dv bR,_,_,_,Q,_,e,?_⟩;intro Y z;have R:N y z:=(N.push y _).ah (ad _) _ _;clear_value z;have F:Hi a k=⟨(nh a k).bW,(nh a k).value,(nh a k).bE,(nh a k).bd,true⟩:=an b;have Z:=(Fo b.1 b.2).1.bE;have om:=(Fo b.1 b.2).1.aY;have p3:(lM a k).depth<=cR ((nh a k).bE+1):=by rw[aP V V];exact M.depth.2
 have P:(((lM a k).ez==0)==((lM a k).fA==0))=true:=by
  rw[aE,xf,aE,aE];exact M.ez.2
 have f:∀{g:Bool}{p:Prop},g=true->g=false->p:=λh G=>absurd (h.symm.trans G) aJ;rw[E,F];exact⟨λ_=>⟨λ_=>⟨λ_=>⟨λ_=>⟨λ_=>⟨pB vb (tm H),((A.trans o).trans B).trans R⟩,f P⟩,f (tm p3)⟩,f (tm M.depth.1)⟩,f (tm M.mG)⟩,f rfl⟩
end
end
end Go.Proofs.YtgnjacfobdjeeaaGreat
section
namespace Go.Vc
variable{t:TypeId}{a:Addr}
open Go.ChangeShapes Go.WideShapes Go.RowKit
section
variable{H:Type}{b:TypeId×Value->H}{P:Program}{w:World}
def Ri(b:TypeId×Value->H)(P:Program)(w:World)(t:TypeId)(Q:List Ce->Prop):Prop:=
 ∀(n:Nat)(a:List Value)(x:DataW H×List MemPlace),DataW.trod b P w 0 (λ_=>true) true n t a=some x->∃c,a=c.map Ce.v/\Q c
def Ri.mono{Q Q':List Ce->Prop}(h:Ri b P w t Q)(f:∀a,Q a->Q' a):Ri b P w t Q':=λn a x g=>
 let⟨c,d,e⟩:=h n a x g
 ⟨c,d,f _ e⟩
def QC{v:Value}(h:w.cell? a=some v):a.spot=none:=by
 unfold World.cell? at h;split at h
 ·split at h
  ·cases h
  ·rename_i b;simpa using b
 ·cases h
def QA(h:a.spot=none)(i:Nat):a.add i=⟨a.block,a.off+i,none⟩:=by
 obtain⟨c,o,s⟩:=a;simp only at h;subst h;unfold Addr.add;by_cases b:i=0
 ·subst b;simp
 ·simp[b]
end
section
variable{H:Type}{b:TypeId×Value->H}{P:Program}
def CC(l:laidOutB P=true){W j:World}(k:Below W.heap.size W j):∀{f:List TypeId}{i:List Value}{g:List (DataW H)}{d:List MemPlace},
 (f.all λt=>P.readableRec t&&decide (t<P.types.size))=true->DataW.TrodAll b P W 0 (λ_=>true) true f i g d->(∀x∈d,x.block<W.heap.size)->∀e:Nat->Bool,(∀p∈d,e p.block=true)->
 DataW.TrodAll b P j 0 e true f i g d
 |[],_,_,_,_,h,_,_,_=>by
  obtain⟨rfl,rfl,rfl⟩:=trodAll_nil h;exact trodAll_mk0
 |t::f,_,_,_,c,h,m,e,n=>by
  obtain⟨v,i,s,g,p,r,rfl,rfl,rfl,o,q⟩:=trodAll_cons h;simp only[LZ,bK,au]at c;exact⟨p,r,WideElems.Trod_stays l c.1.1 c.1.2 o (λx a=>k.same (m x (by simp[a]))) (λx a=>n x (by simp[a])),CC l k (by simpa using c.2) q (λx a=>m x (by simp[a])) e (λx a=>n x (by simp[a])),rfl⟩
def KS{f:Func}{s:ChangeSpec}{W g:World}{i:Array Value}{d:List (DataW H)}{o:List MemPlace}
 (J:laidOutB P=true)(L:(f.params.toList.all λt=>P.readableRec t&&decide (t<P.types.size))=true)(z:f.resultTypes=#[t])(v:P.underlying t=some .bool)(B:s.vars=[])
 (j:DataW.Whole b P f.params.toList s.vars false W i.toList d [] o)(F:(s.fn H (d++[])).args=d)(G:(s.fn H (d++[])).results=[.lit (.bool true)])(I:(s.fn H (d++[])).vars=[])
 (k:Below W.heap.size W g):s.post b P f false true false false W i (.bool true) g:=by
 have h:∀a∈o,a.block<W.heap.size:=λa l=>by simpa using j.lt a l
 have r:=j
 obtain⟨a,N,E,q,rfl,C,M⟩:=j
 rw[B]at q
 obtain⟨_,rfl⟩:=trodVars_none q
 simp only[dD]at h C r
 have u:∀c:Nat->Bool,(∀x∈a,c x.block=true)->DataW.TrodAll b P g 0 c true f.params.toList i.toList (s.fn H (d++[])).args a:=λc K=>by
  rw[F];exact CC J k L E h c K
 have A:∀c:Nat->Bool,DataW.TrodVars b P g c s.vars (s.fn H (d++[])).vars []:=λc=>by rw[B,I];rfl
 have y:∀(e:Nat)(c:Nat->Bool)(hd:Bool),DataW.TrodAll b P g e c hd f.resultTypes.toList ((Value.bool true).resultList f.resultTypes.size) (s.fn H (d++[])).results []:=λe c hd=>by
  rw[G,z];exact trodAll_cons_mk (shut_bool v _) trodAll_mk0
 refine⟨d,[],a,[],a,[],r,y _ _ _,u _ (λx m=>by simpa using h x m),A _,k.frame _,λ_=>?_⟩
 refine⟨ok_one z rfl (okWide_bool_mk v _),_,_,([]++a)++[],⟨[]++a,[],trodAll_append (u _ (λ_ _=>rfl)) (y _ _ _),A _,rfl,?_,λD=>by cases D⟩,?_⟩
 ·intro e n l
  have w:MemPlace.cell e n∈a:=by simpa using l
  rw[k.frozen (p:=⟨e,n,none⟩) (h _ w)]
  exact C e n w
 ·intro x m _
  simpa using m
end
end Go.Vc
end
section
namespace Go.Proofs.YtgnjacfobdjeeaaGreat
open Go.Vc Go.ChangeShapes
def QQ{H:Type}{x:TypeId×Value->H}{P:Program}{w:World}{t e r:Nat}{v:Value}{u:DataW H}{I:List MemPlace}(p:P.underlying t=some (.slice e))(B:P.underlying e=some (.int .u8))(A:P.cellsOf e=1)
 (E:Value.okWide P w .any r t v)(y:DataW.Trod x P w 0 (λ_=>true) true t v u I):∃s,v=O.v s/\DV w.heap s:=by
 obtain⟨J,q,h,rfl⟩:=Go.WideShapes.okWide_slice p E
 obtain⟨L,C⟩:=y
 rcases open_ints p B A C with⟨b,_⟩|⟨d,N,K,g,b,_,D,M,G,_,l,F⟩
 ·simp[Value.cells]at b
  obtain⟨rfl,rfl,rfl⟩:=b
  exact⟨.nil,rfl,ad _,λk a=>by simp at a⟩
 ·simp[Value.cells]at b
  obtain⟨rfl,rfl,rfl⟩:=b
  simp only[KE]at G
  rcases kX h with i|i
  ·subst i
   have:q=0:=V
   subst this
   obtain⟨c,o,s⟩:=d
   cases s with
   |none=>exact⟨.mk c o 0 0,rfl,ad _,λk a=>by simp at a⟩
   |some f=>exact⟨.A2 c o f,rfl,ad _,λk a=>by simp at a⟩
  ·have z:=l 0 V
   have n:d.spot=none:=by
    have:=QC z;simpa[Addr.add]using this
   obtain⟨c,o,s⟩:=d
   simp only at n
   subst n
   refine⟨.mk c o q h,rfl,D,λk a=>?_⟩
   simp only[O.jt]at a
   have m:k<g.length:=V
   have j:=l k m
   have f:=F (g.getD k 0) (by rw[eM,List.getElem?_eq_getElem m];simp)
   rw[Lit.wf,bK,au,au]at f
   refine⟨g.getD k 0,f.1,f.2,?_⟩
   ·rw[QA rfl,yO]at j
    simpa using j
end Go.Proofs.YtgnjacfobdjeeaaGreat
end
