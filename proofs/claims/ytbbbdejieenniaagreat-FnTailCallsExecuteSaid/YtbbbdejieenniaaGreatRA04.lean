/- Part of a proof. -/
import Derived.Test.YtbbbdejieenniaaGreatRA02
import Derived.Test.YtbbbdejieenniaaGreatRA03
set_option linter.all false
set_option maxHeartbeats 8000000
set_option maxRecDepth 100000
namespace Go.Proofs.YtbbbdejieenniaaGreat
open Go.Vc
section
variable{j:cV}{e:Instr}{B:N}{l:ab}{w b1 b2 b3 k:Nat}{c:E}
def kU(j:cV)(e:Instr):Nat->ab->ab
 |_,[]=>[]
 |k,w::B=>(if(e.op=9\/e.op=24)/\js j e k=true then 0 else gE w)::kU j e (k+1) B
def HO(j:cV)(e:Instr):∀(l z:ab)(k:Nat),kU j e k (l++z)=kU j e k l++kU j e (k+l.length) z
 |[],z,k=>by simp[kU]
 |b::l,z,k=>by
  have:=HO j e l z (k+1);simp only[eT,kU,this,dE];have a:k+(l.length+1)=k+1+l.length:=V;rw[a]
def Ix(j:cV)(e:Instr):∀(l:ab)(k:Nat),(kU j e k l).length=l.length
 |[],k=>rfl
 |a::l,k=>by simp only[kU,dE,Ix j e l]
def Nc{j:cV}{e:Instr}(a:e.op=9\/e.op=24):∀(l:ab)(k:Nat),kU j e k l=fI (dy j e.cE).cR k l
 |[],k=>rfl
 |c::l,k=>by
  simp only[kU,fI,Nc a l];congr 1;unfold js;by_cases A:((dy j e.cE).cR.any λy=>y==(k:Int))=true
  .rw[ba ⟨a,A⟩,ba A]
  .rw[aU (λb=>A b.2),aU A]
def Kc{j:cV}{e:Instr}(a:¬(e.op=9\/e.op=24)):∀(l:ab)(k:Nat),kU j e k l=fI [] k l
 |[],k=>rfl
 |c::l,k=>by
  simp only[kU,fI,Kc a l,U9,vY,mN];rw[aU (λb=>a b.1)]
def Jg{b:E}{u:Nat}{d y:N}(aa:iF b d y j)(U:aR b u 0=some d.v)(g1:aR b u 1=some y.v)(Z:Dy j e)(G R:N)(M:bd b B l)(ac:l.length<=1000000):
 sq 218 [vp u 0,xv e G R,B.v] b (kU j e 0 l):=by
 apply vA (u,0)
 simp -zeta only[dU]
 intro a C
 have w:=px a
 have W:=px C
 have ho:jo a C bE 1 (.mk a.size 0 0 0) []:=jo.bI (J.cZ a) bE 1 [] 0 bO
 have g:∀p∈[b.size],p<a.size:=by simp[a]
 have ad:=M.aS
 clear_value C
 clear_value a
 refine gP (n:=l.length) V (λk s c=>J a c/\jo a c bE 1 s ((kU j e 0 (l.take k)).map Ce.i)) ⟨W,by simpa[kU]using ho⟩ ?_
 rintro k s m3 ab μ hk ⟨O,h⟩ D
 have P:=w.O O
 refine dit (λA=>?_) λA=>?_
 .let⟨F,Q⟩:=dY l k
  have L:(l.take k).length=k:=fj
  have v:kU j e 0 (l.take (k+1))=kU j e 0 (l.take k)++[if(e.op=9\/e.op=24)/\js j e k=true then 0 else gE F]:=by
   rw[bX Q,HO,L];simp[kU]
  have t:(kU j e 0 (l.take k)).length<1000000000:=by rw[Ix,L];omega
  refine⟨V,V,F,by simpa using P.aR (M.D Q),(jd).bK O g λp m4 I q m=>⟨p,rfl,λY=>?_,λX=>?_⟩⟩
  .have x:=w.O m
   refine⟨d,x.aR U,y,x.aR g1,(vT (aa.ext x) Z G R k).bK m g λb2 m5 K H o=>⟨b2,rfl,λr=>?_,λr=>?_⟩⟩
   .intro S
    refine rR ((h.ext q).ext H) o t λz T i f=>⟨J.wL (o.cw _) f g,D V _ _ ⟨f,?_⟩⟩
    rw[v,aU (nb K r),gE,ba (I.1 Y)];exact i
   .intro S
    refine rR ((h.ext q).ext H) o t λz T i f=>⟨J.wL (o.cw _) f g,D V _ _ ⟨f,?_⟩⟩
    rw[v,ba (yb K r)];exact i
  .intro S
   refine rR (h.ext q) m t λz T i f=>⟨J.wL (m.cw _) f g,D V _ _ ⟨f,?_⟩⟩
   rw[v]
   have o:(if(e.op=9\/e.op=24)/\js j e k=true then 0 else gE F)=0:=by
    rw[gE,aU (fb I X)];split<;>rfl
   rw[o];exact i
 .rw[eW V]at h
  exact⟨s,rfl,h.da w.aP,P⟩
@[grind cases] structure tA (m m':E) (b1 b2 b3 n:Nat) (aT bF cQ:ab):Prop where
 ext:J m m'
 lo:m.size<=b1/\m.size<=b2/\m.size<=b3/\b1≠b2/\b1≠b3/\b2≠b3/\b1<m'.size/\b2<m'.size/\b3<m'.size
 kr:dJ m' b1 bE (aT.map Ce.i)
 ko:dJ m' b2 bE (bF.map Ce.i)
 kh:dJ m' b3 bE (cQ.map Ce.i)
 aS:aT.length=n/\bF.length=n/\cQ.length=n
def Pc{b:E}{a:Nat}(d:dJ b a bE ((eQ w).map Ce.i))(f:l.length<=w):dJ (aV b a 0 (l.map Ce.i)) a bE ((l++eQ (w -l.length)).map Ce.i):=by
 have:=dJ.aV (m:=b) (o:=0) (r:=l.map Ce.i) d;have e:jh ((eQ w).map Ce.i) 0 (l.map Ce.i)=(l++eQ (w -l.length)).map Ce.i:=by
  have c:=Bv [] (l.map Ce.i) ((eQ w).map Ce.i) (by simp[lO];omega);simp only[gY,kD]at c;rw[c];simp[eQ,List.drop_replicate]
 rw[e]at this;exact this
def Cx{b:E}{d y:N}(L:iF b d y j){r:Int}(S:0<=r){q:dP}(O:j.cO[r.toNat]? =some q)(D:0<=q.aT/\q.aT<=2000)(K:Int){I:N}{f i:ab}(P:bd b B f)(M:bd b I i)(ag:(f.length:Int)<=q.aT)(ae:i.length=f.length):
 bJ dN 107 [.agg #[d.v,y.v],vi r,vi K,B.v,I.v] b λac c=>∃b1 b2 b3,ac=.agg #[vi r,vi 0,vi K,N.v (.mk b1 0 q.aT.toNat q.aT.toNat),N.v (.mk b2 0 q.aT.toNat q.aT.toNat),N.v (.mk b3 0 q.aT.toNat q.aT.toNat)]/\
  tA b c b1 b2 b3 q.aT.toNat (f++eQ (q.aT.toNat -f.length)) (i++eQ (q.aT.toNat -i.length)) (eQ q.aT.toNat):=by
 apply I5
 simp -zeta only[dU]
 intro F a
 have w:J b a:=((J.cZ b).cw _).cw _
 have s1:=pz F
 have s2:a.size=b.size+2:=by simp[a,s1]
 have l:∀h∈[F.size,b.size],h<a.size:=fj
 have af:=L.cO.aS
 have ad:=bA O
 have X:=P.aS
 have W:=M.aS
 clear_value a
 obtain⟨a',l',c',_,_,_,_,_,_,k3,_⟩:=(L.ext w).cO.D O
 refine⟨S,V,q.aT,k3,(uZ D.1 V).aO ?_⟩
 rintro _ e ⟨rfl,n⟩
 have z:J a e:=by rw[n];exact J.push _ _
 have s3:e.size=a.size+1:=by rw[n];simp
 have Q:dJ e a.size bE ((eQ q.aT.toNat).map Ce.i):=by rw[n];exact dJ.push _ _ _
 clear n
 refine⟨z.fq l,_,rfl,(uZ D.1 V).aO ?_⟩
 rintro _ x ⟨rfl,o⟩
 have u:J e x:=by rw[o];exact J.push _ _
 have s4:x.size=e.size+1:=by rw[o];simp
 have Z:dJ x e.size bE ((eQ q.aT.toNat).map Ce.i):=by rw[o];exact dJ.push _ _ _
 clear o
 have A:=z.O u
 have T:min B.len q.aT.toNat=f.length:=by rw[X];exact my V
 have U:min I.len q.aT.toNat=i.length:=by rw[W];exact my V
 refine⟨u.fq (λh C=>z.lt (l h C)),_,rfl,f.map Ce.i,by simp only[N.lJ];rw[T];simp,(P.ext (w.O A)).Eu,(Q.ext u).iQ (by simp[lO];omega),?_⟩
 intro k
 have k5:dJ k a.size bE ((f++eQ (q.aT.toNat -f.length)).map Ce.i):=Pc (Q.ext u) V
 have R:dJ k e.size bE ((eQ q.aT.toNat).map Ce.i):=Z.congr (cg _ _ _ _ (show e.size≠a.size by omega))
 have s:J a k:=A.aV bW _ _
 have s5:k.size=x.size:=bD _ _ _ _
 clear_value k
 refine⟨J.wL A s l,i.map Ce.i,by simp only[N.lJ];rw[U];simp,(M.ext (w.O s)).Eu,R.iQ (by simp[lO];omega),?_⟩
 intro g
 have k6:dJ g e.size bE ((i++eQ (q.aT.toNat -i.length)).map Ce.i):=Pc R V
 have aa:dJ g a.size bE ((f++eQ (q.aT.toNat -f.length)).map Ce.i):=k5.congr (cg _ _ _ _ (show a.size≠e.size by omega))
 have t:J a g:=s.aV (show a.size<=e.size by omega) _ _
 have s6:g.size=k.size:=bD _ _ _ _
 clear_value g
 refine⟨J.wL s t l,(uZ D.1 V).aO ?_⟩
 rintro _ m ⟨rfl,p⟩
 have v:J g m:=by rw[p];exact J.push _ _
 have s7:m.size=g.size+1:=by rw[p];simp
 have k7:dJ m g.size bE ((eQ q.aT.toNat).map Ce.i):=by rw[p];exact dJ.push _ _ _
 clear p
 refine⟨J.wL t (t.O v) l,_,rfl,?_⟩
 intro G
 have Y:J b G:=(w.O (t.O v)).aV V _ _
 have s8:G.size=m.size:=bD _ _ _ _
 have H:∀h,h≠F.size->G[h]? =m[h]? :=λh C=>cg _ _ _ _ C
 refine⟨a.size,e.size,g.size,rfl,Y,V,(aa.ext v).congr (H _ V),(k6.ext v).congr (H _ V),k7.congr (H _ V),by simp[lO];omega⟩
def pY(q:ag)(b1 b2 b3 w:Nat):Nat->Nat:=p7 (p7 (p7 q b1 (10+3*w)) b2 (11+3*w)) b3 (12+3*w)
def tA.gX{y:Nat->Prop}{q:ag}{b:E}{aT bF cQ:ab}(N:tA b c b1 b2 b3 k aT bF cQ)(e:∀a,b.size<=a->q a=0):dZ y q b (pY q b1 b2 b3 w) c:=by
 have f:=N.lo;refine⟨N.ext.aP,λa d=>?_,λa d=>?_,λa d _=>N.ext.bC a d⟩
 .unfold pY;rw[fO V,fO V,fO V]
 .unfold pY;rw[fO V,fO V,fO V];exact e a (oh N.ext.aP)
def tA.rE{q:ag}{b:E}{aT bF cQ:ab}(N:tA b c b1 b2 b3 k aT bF cQ):
 iJ (pY q b1 b2 b3 w) c bE 1 (10+3*w) (.mk b1 0 k k) (aT.map Ce.i)/\iJ (pY q b1 b2 b3 w) c bE 1 (11+3*w) (.mk b2 0 k k) (bF.map Ce.i)/\iJ (pY q b1 b2 b3 w) c bE 1 (12+3*w) (.mk b3 0 k k) (cQ.map Ce.i):=by
 have f:=N.lo
 let⟨a,d,e⟩:=N.aS
 refine⟨⟨by simp[a],bO,bG ⟨b1,k,[],rfl,?_,by rw[fH];exact N.kr,by simp[a]⟩⟩,⟨by simp[d],bO,bG ⟨b2,k,[],rfl,?_,by rw[fH];exact N.ko,by simp[d]⟩⟩,⟨by simp[e],bO,bG ⟨b3,k,[],rfl,?_,by rw[fH];exact N.kh,by simp[e]⟩⟩⟩
 .unfold pY;rw[fO V,fO V,iP]
 .unfold pY;rw[fO V,iP]
 .unfold pY;rw[iP]
def tA.bT{b:E}{aT bF cQ:ab}(N:tA b c b1 b2 b3 k aT bF cQ){m1:E}(e:J m1 b){nb:Nat}(d:m1.size<=nb)(f:nb<b.size)(i:Nat)(a:ae):tA m1 (aV c nb i a) b1 b2 b3 k aT bF cQ:=by
 have g:=N.lo;exact⟨(e.O N.ext).aV d _ _,by rw[bD];omega,N.kr.congr (cg _ _ _ _ V),N.ko.congr (cg _ _ _ _ V),N.kh.congr (cg _ _ _ _ V),N.aS⟩
def tA.Lk{b d:E}{aT bF cQ:ab}(N:tA b c b1 b2 b3 k aT bF cQ)(a:J c d):tA b d b1 b2 b3 k aT bF cQ:=by
 have e:=N.lo;have:=a.aP;exact⟨N.ext.O a,V,N.kr.ext a,N.ko.ext a,N.kh.ext a,N.aS⟩
variable{F:E}{q:ag}{b:E}{u:Nat}{d y cC D t:N}{s:St}{g:ak}{v:bS}{z G A:N}{C:List ae}
def rD.replace{d:ag}(T:rD q b t g v z G A C)(u:dZ (λ_=>False) q b d c){a:bS}{j i e:N}(w:iJ d c bE 1 (10+3*g.length) j (a.aT.map Ce.i))(p:iJ d c bE 1 (11+3*g.length) i (a.bF.map Ce.i))(s:iJ d c bE 1 (12+3*g.length) e (a.cQ.map Ce.i)):
 iQ c t.bq (t.off+g.length*6) 6/\sk d (aV c t.bq (t.off+g.length*6) [.i a.fY,.i a.pc,.i a.br,.s j,.s i,.s e]) t (g++[a])/\dZ (λk=>k=4) d c d (aV c t.bq (t.off+g.length*6) [.i a.fY,.i a.pc,.i a.br,.s j,.s i,.s e]):=by
 have m:rD d c t g v z G A C:=T.gX u λ_ _=>id
 have n:C.flatten.length=g.length*6:=by rw[eE T.aP,T.aS]
 have l:dZ (λk=>k=4) d c d (aV c t.bq (t.off+g.length*6) [.i a.fY,.i a.pc,.i a.br,.s j,.s i,.s e]):=dZ.aV u.bI m.bq.1 _ _
 refine⟨m.rE.wr (by simp[n]),rD.qd (f:=a) (a:=g) (j:=C) (r:=j) (e:=i) (h:=e) ⟨?_,T.aS,T.aP,m.Cr l λk p s=>V,w.gX l V,p.gX l V,s.gX l V⟩,l⟩
 have:=m.rE.eB (o:=g.length*6) (new:=[.i a.fY,.i a.pc,.i a.br,.s j,.s i,.s e]) (by simp[n])
 rw[oI _ _ _ _ V,n,Vf]at this
 exact this
def Rn(u nb:Nat)(d:ad)(k n f:Int)(g g1 g2:Int)(l j h:N)(e:E)(R:ai):Prop:=
 ((k==(24:Int))=true->
 let b:E:=aV e nb 2 [.i f]
 ∃a:N,aR b u 8=some a.v/\
 ∃c:N,aR b u 8=some c.v/\
 (0:Int)<=(eR ((c.len:Int) -(1:Int)))/\(eR ((c.len:Int) -(1:Int)))<(a.len:Int)/\
 iQ b a.bq (a.off+Int.toNat (eR ((c.len:Int) -(1:Int)))*6) 6/\
 let i:E:=aV b a.bq (a.off+Int.toNat (eR ((c.len:Int) -(1:Int)))*6) [.i g,.i g1,.i f,.s l,.s j,.s h]
 gL (nb::d) b i/\
 R (.tuple #[]) i)/\
 ((k==(24:Int))=false->
 bJ dN 182 [vp u 0,vi (eR (n+(1:Int)))] e λ_ a=>
 gL (nb::d) e a/\
 ∃m:N,aR a u 8=some m.v/\
 let c:E:=a.push (.cells (de [.i g,.i g1,.i g2,.s l,.s j,.s h]) iz)
 aR c u 8=aR a u 8/\
 lS c iz [.i (0:Int),.i (0:Int),.i (0:Int),.s N.nil,.s N.nil,.s N.nil] 96 m (N.mk a.size 0 1 1) λo b=>
 gL (nb::d) c b/\
 iQ b u 8 1/\
 let i:E:=aV b u 8 [.s o]
 gL (nb::d) b i/\
 R (.tuple #[]) i)
def So(S:ST F q b u dB (SB d y s cC D t) cC D t s.cC s.aQ g v z G A C){W:ad}(I:CF q b W){nb:Nat}{m:E}{h:bS}(B:tA b m b1 b2 b3 k h.aT h.bF h.cQ)(aj:b.size<=nb/\nb<m.size)(w:nb≠b1/\nb≠b2/\nb≠b3)
 (ay:g.length<=100000)(aA:0<=v.pc/\v.pc<=100000){R:ai}
 (ar:e.op=24->∀c,CJ F q b u d y {s with bn:=g++[{h with br:=v.br}]} c->R (.tuple #[]) c)
 (au:e.op≠24->∀c,CJ F q b u d y {s with bn:=g++[{v with pc:=v.pc+1},h]} c->R (.tuple #[]) c):
 Rn u nb W e.op v.pc v.br h.fY h.pc h.br (.mk b1 0 k k) (.mk b2 0 k k) (.mk b3 0 k k) m R:=by
 have az:=B.lo
 have ax:=S.jz.DT
 have H:eR ((t.len:Int) -1)=(g.length:Int):=by rw[iC];omega
 have e2:Int.toNat (g.length:Int)=g.length:=V
 have e4:eR (v.pc+1)=v.pc+1:=iC
 have ak:q nb=0:=S.eH.bI _ aj.1
 refine⟨λM=>?_,λM=>?_⟩
 .intro J
  have Q:tA b J b1 b2 b3 k h.aT h.bF h.cQ:=⟨B.ext.aV aj.1 _ _,by simp only[J,bD];omega,B.kr.congr (cg _ _ _ _ (λH=>w.1 H.symm)),B.ko.congr (cg _ _ _ _ (λH=>w.2.1 H.symm)),B.kh.congr (cg _ _ _ _ (λH=>w.2.2 H.symm)),B.aS⟩
  have ab:J.size=m.size:=bD _ _ _ _
  clear_value J
  have r:dZ (λ_=>False) q b (pY q b1 b2 b3 g.length) J:=Q.gX S.eH.bI
  let⟨U,a2,a3⟩:=Q.rE (q:=q) (w:=g.length)
  let⟨Z,w2,L⟩:=S.jz.replace r (a:={h with br:=v.br}) U a2 a3
  let⟨O,X⟩:=S.eH.jK (r.aO λ_=>False.elim) (S.eH.aQ.gX r id id)
  have K:aR J u 8=some t.v:=O.bT.dz 8
  refine⟨t,K,t,K,?_⟩
  rw[H,e2]
  refine⟨V,V,Z,?_⟩
  intro aa
  let⟨T,Y⟩:=O.mw (L.aO λk P=>V) w2
  refine⟨?_,ar (sp M) _ ⟨_,cC,D,t,T,X.O Y⟩⟩
  intro o j
  rcases aY.1 j with rfl|j
  .refine L.fL _ V ?_
   unfold pY;rw[fO w.2.2,fO w.2.1,fO w.1,ak];decide
  .refine L.fL _ (oh ((I o j).1)) ?_
   rw[r.j8 o (I o j).1,(I o j).2];decide
 .simp only[a8]at M
  rw[e4]
  have r:dZ (λ_=>False) q b (pY q b1 b2 b3 (g.length+1)) m:=B.gX S.eH.bI
  let⟨U,a2,a3⟩:=B.rE (q:=q) (w:=g.length+1)
  let⟨ap,aw⟩:=S.eH.jK (r.aO λ_=>False.elim) (S.eH.aQ.gX r id id)
  have J:ST F (pY q b1 b2 b3 (g.length+1)) m u dB (SB d y s cC D t) cC D t s.cC s.aQ g v z G A C:=⟨ap,S.jz.gX r λ_ _=>id⟩
  have ah:CF (pY q b1 b2 b3 (g.length+1)) m (nb::W):=λo j=>by
   rcases aY.1 j with rfl|j
   .refine⟨V,?_⟩;unfold pY;rw[fO w.2.2,fO w.2.1,fO w.1,ak]
   .exact⟨by have:=(I o j).1;omega,by rw[r.j8 o (I o j).1];exact(I o j).2⟩
  apply td (u,0)
  have K:aR m u 8=some t.v:=J.eH.bT.dz 8
  refine⟨t,K,t,K,?_⟩
  rw[H,e2]
  refine⟨V,V,J.jz.aaX,?_⟩
  intro Q
  let⟨L,aa⟩:=J.RP (v.pc+1)
  have aq:dZ (λk=>k=4) (pY q b1 b2 b3 (g.length+1)) m (pY q b1 b2 b3 (g.length+1)) Q:=dZ.aV J.eH.bI J.jz.bq.1 _ _
  refine⟨aa.fR ah,t,L.eH.bT.dz 8,?_⟩
  intro Z
  have Y:=px Z
  let⟨T,an⟩:=L.ext Y
  have ac:=(ah.to aa).to an
  have np:jt Z Q.size 0 [.i h.fY,.i h.pc,.i h.br,.s (.mk b1 0 k k),.s (.mk b2 0 k k),.s (.mk b3 0 k k)]:=(dJ.push Q _ _).kV
  have O:(g++[{v with pc:=v.pc+1}]).length=g.length+1:=bO
  have X:=λ{k:Nat}{s:N}{l:ae}(a:iJ (pY q b1 b2 b3 (g.length+1)) m bE 1 k s l)(P:k≠4)=>(a.gX aq P).gX (dZ.fV (p:=λ_=>False) Y L.eH.bI) id
  refine⟨Y.db (L.eH.bT.dz 8),sk.push T.eH.bn T.eH.bI (x:=.mk Q.size 0 1 1) rfl (a:=h) np (by rw[O];exact X U V) (by rw[O];exact X a2 V) (by rw[O];exact X a3 V) (by rw[O];omega) λam al av q1 q2=>?_⟩
  have ab:To _ Z am av:=q2.aO λk P=>V
  let⟨af,aC⟩:=T.eH.mw (q2.aO λk P=>V) q1
  refine⟨ab.fR ac,af.pE (i:=8) bO,?_⟩
  intro aB
  let⟨ag,ao⟩:=af.lL 8 [.s al]
  refine⟨ao.fR (ac.to ab),au M _ ⟨am,cC,D,al,?_,(((aw.O aa).O an).O ab).O ao⟩⟩
  have e9:g++[{v with pc:=v.pc+1}]++[h]=g++[{v with pc:=v.pc+1},h]:=bO
  rw[e9]at ag
  exact ag
end
section
variable{e:cV}
noncomputable def uV (e:cV) (a:St) (c:ak) (b:bS) (x:Instr):St:=
 if x.op=9 then{a with df:=a.df+1,bn:=c++[{b with pc:=b.pc+1},cq e x.cE x.br (dO b x.aN)]}
 else if x.op=24 then{a with df:=a.df+1,bn:=c++[cq e x.cE b.br (dO b x.aN)]}
 else{a with df:=a.df+1,aQ:=iO a.aQ (D b.aT (D x.aN 0)),bn:=c++[{b with pc:=b.pc+1},cq e ((bt a.aQ (D b.aT (D x.aN 0))).jJ -cJ e) x.br ((bt a.aQ (D b.aT (D x.aN 0))).bU++[D b.aT (D x.aN 1)])]}
variable{u:E}{n:ag}{m:E}{q:Nat}{d p cC t j:N}{a:St}{c:ak}{b:bS}{r y h:N}{z:List ae}
def ST.rv(S:ST u n m q dB (SB d p a cC t j) cC t j a.cC a.aQ c b r y h z)(g:iF u d p e)(k:a.cC.length<=2000000000)(i:a.aQ.length<=2000000000)(f:oU m j (c++[b])):
 RV m q 2 d p cC t j e {a with bn:=c++[b]}:=
 ⟨g.ext S.eH.da,S.eH.bT.dz 0,S.eH.bT.dz 1,S.eH.bT.dz 2,S.eH.bT.dz 3,S.eH.bT.dz 4,S.eH.bT.dz 5,S.eH.bT.dz 6,S.eH.bT.dz 7,S.eH.bT.dz 8,S.eH.cC.nL V,S.eH.aQ.kG V,f⟩
def sk.PR{c:ak}(d:sk n m j c)(A:c.length<=2000000000)(q:∀b∈c,b.aT.length<=1000000/\b.bF.length<=1000000/\b.cQ.length<=1000000):oU m j c:=by
 let⟨z,a,o,e,p⟩:=d;have t:j.len=c.length:=by have:=a.aS;rw[eE e,o]at this;omega
 refine⟨t,a.le,V,λk x g=>?_⟩;let⟨l,f⟩:=dY z k cG;obtain⟨r,y,h,rfl,v,u,d⟩:=p k l x f g;let⟨B,C,D⟩:=q x (aZ g);refine⟨_,⟨r,y,h,rfl,v.nL V,u.nL V,d.nL V⟩,λw i s=>?_⟩;have:=a.kV (k*6+w) i (jY e f s);grind [Nat.add_assoc]
def Ra(aj:ST u n m q dB (SB d p a cC t j) cC t j a.cC a.aQ c b r y h z)(aC:iF u d p e)(aw:gC e){A:Instr}{ac ad:N}(ha:bd u ac A.aN)(bf:∀G∈A.aN,0<=G/\G<b.aT.length)(bI:A.aN.length<=4)
 (bV:A.op=9\/A.op=24\/A.op=11)(aS:(A.op=9\/A.op=24)->pt e A.cE A.aN.length)(be:A.op=11->A.aN.length=2/\tz e a.aQ (D b.aT (D A.aN 0)))
 (bT:b.aT.length=b.bF.length/\b.cQ.length=b.bF.length/\b.bF.length<=2000)(bc:∀I∈c,I.aT.length<=1000000/\I.bF.length<=1000000/\I.cQ.length<=1000000)(br:0<=b.pc/\b.pc<=100000)(bP:c.length<=10000)(bQ:a.aQ.length<=1000000000)(bX:a.cC.length<=1000000000)(bK:0<=a.df/\a.df<=100000)
 {F:Nat->Int}(hI:iW a.aQ F):
 bJ dN 179 [vp q 0,fv b r y h,xv A ac ad] m λ_ O=>CJ u n m q d p (uV e a c b A) O:=by
 apply zG (q,0)
 simp -zeta only[kd,nJ]
 intro K m2
 have bw:J m m2:=((J.cZ m).cw _).cw _
 have s1:=pz K
 have s2:m2.size=m.size+2:=by simp[m2,s1]
 have B2:=CF.MG aj.eH.bI s1 s2
 have kB:dJ m2 K.size dV [.i A.op,.i A.br,.i A.cE,.i A.cY,.s ac,.s ad]:=dJ.push K _ _
 let⟨S2,t2⟩:=aj.ext bw
 clear_value m2
 have bj:Dy e A:=λF=>let⟨B,h1,H,_⟩:=aS F;⟨h1,B,H⟩
 have bH:(gJ e.bQ).length<=12:=by
  have:=tI aw.kQ.dh e.bQ.length;rw[qu _ _ bW]at this;exact this
 have bm:∀{n m t lh bx},ST u n m q dB bx cC t j a.cC lh c b r y h z->oU m j (c++[b]):=λaj=>aj.eH.bn.PR fj (λI C=>by
  rcases bR.1 C with C|C
  .exact bc I C
  .simp at C;subst C;omega)
 refine(vW (f:=b) (S2.Es V) (ha.ext S2.eH.da) bf V).aO ?_
 rintro _ m3 ⟨W,rfl,ow,av⟩
 let⟨S3,t3⟩:=S2.ext av
 have B3:=B2.to t3
 have bv:(dO b A.aN).length=A.aN.length:=by simp[dO]
 have al:bd m3 W (dO b A.aN):=bd.jM ow V
 have bF:∀{O:E}{W:N}{ap:ae},jo O m3 bE 1 W ap->m.size<=O.size->W≠.nil->n W.bq=0:=λho hs aa=>by
  rcases ho.bq with F|F
  .exact absurd F aa
  .exact aj.eH.bI _ V
 refine⟨t3.fR B2,W,rfl,λI wv O=>∃(ay:ag)(aX:N)(ai:ah)(C:ab)(B:dP),ST u ay O q dB (SB d p a cC aX j) cC aX j a.cC ai c b r y h z/\To n m ay O/\CF ay O [K.size,m.size]/\dJ O K.size dV [.i A.op,.i A.br,.i A.cE,.i A.cY,.s ac,.s ad]/\bd O wv C/\(C≠[]->ay wv.bq=0)/\
  0<=I/\e.cO[I.toNat]? =some B/\C.length=B.aX.length/\kU e A 0 C=fI B.cR 0 C/\
  (A.op=24->uV e a c b A={a with df:=a.df+1,aQ:=ai,bn:=c++[cq e I b.br C]})/\(A.op≠24->uV e a c b A={a with df:=a.df+1,aQ:=ai,bn:=c++[{b with pc:=b.pc+1},cq e I A.br C]}),?_,?_⟩
 .refine⟨λam=>?_,λam=>?_⟩
  .simp at am
   let⟨H,X,a0,bY,bq,aV,bM⟩:=be am
   let⟨aq,bs⟩:=dH X
   have aM:=hI.iu _ (aZ aq)
   have bZ:=(aM.yH bs).2
   have aW:=bA aq
   have bg:A.aN=[D A.aN 0,D A.aN 1]:=by
    cases S:A.aN with
    |nil=>rw[S]at H;simp at H
    |cons G ap=>cases ap with
     |nil=>rw[S]at H;simp at H
     |cons L ap=>cases ap with
      |nil=>rfl
      |cons _ _=>rw[S]at H;simp at H
   have a1:dO b A.aN=[D b.aT (D A.aN 0),D b.aT (D A.aN 1)]:=by rw[bg];rfl
   have b4:=al.aS
   have b0:=al.lZ
   have gw:aR m3 W.bq (W.off+Int.toNat (0:Int)*1)=some (vi (D b.aT (D A.aN 0))):=al.D (k:=0) (by rw[a1];rfl)
   have ao:=S3.rv aC V V (bm S3)
   generalize hw:D b.aT (D A.aN 0)=w at*
   generalize hv:D b.aT (D A.aN 1)=v at*
   let⟨B,hq⟩:=dY e.cO (((bt a.aQ w).jJ -cJ e).toNat)
   have af:dy e ((bt a.aQ w).jJ -cJ e)=B:=by simp[dy,hq]
   rw[af]at bq aV
   refine⟨V,V,w,gw,d,ao.bQ,(ju ao X.1 aq).aO ?_⟩
   rintro _ m4 ⟨f4,rfl,bL,Y⟩
   let⟨S4,t4⟩:=S3.ext Y
   have B4:=B3.to t4
   have aN:=ao.ext Y
   refine⟨t4.fR B3,_,_,_,rfl,Y.db ao.bQ,(uL aN.gW.bQ aw.kQ.dh).aO ?_⟩
   rintro _ L ⟨rfl,aA⟩
   let⟨Q,t5⟩:=S4.ext aA
   have B5:=B4.to t5
   have bb:=aN.ext aA
   refine⟨t5.fR B4,_,rfl,V,V,V,(ju bb X.1 aq).aO ?_⟩
   rintro _ m6 ⟨f6,rfl,bl,aK⟩
   let⟨S6,t6⟩:=Q.ext aK
   have B6:=B5.to t6
   have az:=(Y.O aA).O aK
   have e1:(Int.toNat (1:Int))=1:=rfl
   have e2:(Int.toNat (W.len:Int))=W.len:=V
   rw[e1,e2]
   have bz:bd m6 (N.cut W 1 W.len 1) [v]:=by
    have:=aav (al.ext az) (by rw[bv];omega);rw[a1]at this;exact this
   have bN:=aM.fl
   refine⟨t6.fR B5,_,_,_,rfl,(Qh bl bz fj).aO ?_⟩
   rintro _ m7 ⟨M,rfl,oe,aL⟩
   let⟨S7,t7⟩:=S6.ext aL
   have B7:=B6.to t7
   have ie:bd m7 M ((bt a.aQ w).bU++[v]):=bd.jM oe fj
   have ar:n M.bq=0:=by
    rcases oe.bq with F|F
    .subst F;have:=ie.aS;simp at this
    .exact aj.eH.bI _ (Xm az.aP av.aP)
   have bk:M.bq<m7.size:=lG ie bO
   refine⟨t7.fR B6,M,rfl,(Ft S7.eH X hI V).aO ?_⟩
   rintro _ R ⟨an,rfl,hb,G,bi,bh⟩
   have t8:To n m7 n R:=G.aO λT P=>V
   have B8:=B7.to t8
   have a2:bd R M ((bt a.aQ w).bU++[v]):=jV ie λ_=>G.fL _ bk (by rw[ar];decide)
   have a4:To n m n R:=(((((t2.O t3).O t4).O t5).O t6).O t7).O t8
   have a3:dJ R K.size dV [.i A.op,.i A.br,.i A.cE,.i A.cY,.s ac,.s ad]:=(kB.ext (av.O (az.O aL))).congr (G.fL _ (B7 K.size bO).1 (by rw[(B7 K.size bO).2];decide))
   have e3:eR ((bt a.aQ w).jJ -((gJ e.bQ).length:Int))=(bt a.aQ w).jJ -cJ e:=dt V V
   rw[e3]
   have ax:kU e A 0 ((bt a.aQ w).bU++[v])=fI B.cR 0 ((bt a.aQ w).bU++[v]):=by
    rw[Kc V,cr.1 aV]
   have aT:∀ai,ai=iO a.aQ w->uV e a c b A={a with df:=a.df+1,aQ:=ai,bn:=c++[{b with pc:=b.pc+1},cq e ((bt a.aQ w).jJ -cJ e) A.br ((bt a.aQ w).bU++[v])]}:=λai F=>by
    rw[uV,aU V,aU V,hw,hv,F]
   refine⟨t8.fR B7,an,rfl,λaP=>?_,λaO=>?_⟩
   .have aB:=hb.1 aP
    let⟨U,bG⟩:=S7.jK (G.aO λT P=>bu P) (bi aP)
    have bU:=U.eH.aQ.aS
    refine⟨t,U.eH.bT.dz 7,?_⟩
    intro m9
    have a_:=px m9
    let⟨S9,Z⟩:=U.ext a_
    have B9:=B8.to Z
    clear_value m9
    have bS:=X.1
    have bp:ix w=(w -1000).toNat:=rfl
    have e5:eR (w -1000)=w -1000:=dt V V
    rw[e5,<-bp]
    refine⟨V,V,S9.eH.aQ.wr (o:=0) aW cH,?_⟩
    intro b5
    let⟨bo,a8⟩:=S9.eH.aQ.pI S9.eH.bI aW 0 0 (f:=.mk R.size 0 0 0) (l:=[]) ⟨rfl,bO,bO,bO⟩ (λaa=>absurd rfl aa)
    let⟨au,aE⟩:=S9.jK (a8.aO λT P=>bu P) bo
    have aI:=B9.to aE
    refine⟨aE.fR B9,t,au.eH.bT.dz 7,(BY (au.eH.aQ.kG fj)).aO ?_⟩
    rintro _ b6 ⟨rfl,a9⟩
    let⟨ak,aF⟩:=au.ext a9
    have aJ:=aI.to aF
    refine⟨aF.fR aI,_,rfl,ak.eH.pE (i:=7) bO,?_⟩
    intro aD
    obtain⟨a6,b7⟩:=ak.jK (dZ.cZ _ ak.eH.bI) (ak.eH.aQ.rc (xU _ _))
    obtain⟨a7,aG⟩:=a6.lL 7 [.s (t.cut 0 (lB (a.aQ.set (ix w) kN) (a.aQ.set (ix w) kN).length) 3)]
    have a5:=aJ.to aG
    have aH:To n R n aD:=((Z.O aE).O aF).O aG
    have bB:bd aD M ((bt a.aQ w).bU++[v]):=jV a2 λ_=>aH.fL _ (oh G.aP) (by rw[ar];simp)
    have bC:dJ aD K.size dV [.i A.op,.i A.br,.i A.cE,.i A.cY,.s ac,.s ad]:=a3.congr (aH.fL _ (B8 K.size bO).1 (by rw[(B8 K.size bO).2];simp))
    refine⟨aG.fR aJ,n,_,_,_,B,a7,a4.O aH,a5,bC,bB,λ_=>ar,a0,hq,fj,ax,λF=>V,λ_=>aT _ ?_⟩
    rw[iO,ba aB];rfl
   .have aB:(bt a.aQ w).ct≠1:=λF=>by have:=hb.2 F;rw[aO]at this;simp at this
    let⟨U,bG⟩:=S7.jK (G.aO λT P=>bu P) (bh aO)
    refine⟨n,t,_,_,B,U,a4,B8,a3,a2,λ_=>ar,a0,hq,fj,ax,λF=>V,λ_=>aT _ ?_⟩
    rw[iO,aU aB]
  .simp at am
   have G:A.op=9\/A.op=24:=V
   let⟨B,P,M,R⟩:=aS G
   have af:dy e A.cE=B:=by simp[dy,M]
   refine⟨n,t,a.aQ,dO b A.aN,B,S3,t2.O t3,B3,kB.ext av,al,λaa=>bF ow V (λF=>by subst F;have:=al.aS;simp at this;exact aa (cr.1 this.symm)),P,M,V,by rw[Nc G,af],λF=>?_,λF=>?_⟩
   .rw[uV,aU V,ba F]
   .rw[uV,ba V]
 .rintro I wv m4 ⟨am,aJ,aE,C,B,S4,t4,B4,a4,aK,a3,aV,hq,a7,ax,aP,aT⟩
  have af:dy e I=B:=by simp[dy,hq]
  have a6:=(aw.eN B (aZ hq)).aT
  have h3:=(aw.kQ.eN B (aZ hq)).1
  refine⟨a.df,S4.eH.bT.dz 4,S4.eH.pE (i:=4) bO,?_⟩
  have e3:eR (a.df+1)=a.df+1:=dt V V
  rw[e3]
  intro L
  let⟨Q,t5⟩:=S4.lL 4 [.i (a.df+1)]
  have B5:CF am L [K.size,m.size]:=B4.to t5
  replace t5:To am m4 am L:=t5
  have c5:dZ (λT=>T=1) am m4 am L:=dZ.aV S4.eH.bI S4.eH.Yp _ _
  have aL:bd L wv C:=jV aK λaa=>c5.fL _ (lG aK aa) (by rw[a3 aa];decide)
  have a5:dJ L K.size dV [.i A.op,.i A.br,.i A.cE,.i A.cY,.s ac,.s ad]:=a4.congr (c5.fL _ (B4 K.size bO).1 (by rw[(B4 K.size bO).2];decide))
  replace Q:ST u am L q dB (SB d p {a with df:=a.df+1,aQ:=aE} cC aJ j) cC aJ j a.cC aE c b r y h z:=Q
  refine⟨t5.fR B4,d,Q.eH.bT.dz 0,p,Q.eH.bT.dz 1,?_⟩
  clear_value L
  have aN:=t4.O t5
  have a2:(kU e A 0 C).length=C.length:=Ix _ _ _ _
  have a1:(cq e I A.br C).aT=C++eQ (B.aT.toNat -C.length):=by simp[cq,af]
  have a0:(cq e I A.br C).bF=kU e A 0 C++eQ (B.aT.toNat -(kU e A 0 C).length):=by simp[cq,af,ax,lU]
  have aW:(cq e I A.br C).cQ=eQ B.aT.toNat:=by simp[cq,af]
  have j7:∀(X au:E)(nb b1 b2 b3:Nat),J L X->tA X au b1 b2 b3 B.aT.toNat (C++eQ (B.aT.toNat -C.length)) (kU e A 0 C++eQ (B.aT.toNat -(kU e A 0 C).length)) (eQ B.aT.toNat)->X.size<=nb/\nb<au.size->nb≠b1/\nb≠b2/\nb≠b3->
   Rn q nb [K.size,m.size] A.op b.pc b.br I 0 A.br (.mk b1 0 B.aT.toNat B.aT.toNat) (.mk b2 0 B.aT.toNat B.aT.toNat) (.mk b3 0 B.aT.toNat B.aT.toNat) au (λ_ O=>CJ u n m q d p (uV e a c b A) O):=λX au nb b1 b2 b3 S P aD aa=>by
   let⟨SM,tM⟩:=Q.ext S
   refine So (s:={a with df:=a.df+1,aQ:=aE}) (h:=cq e I A.br C) (e:=A) SM (B5.to tM) (by rw[a1,a0,aW];exact P) aD aa V br (λF O hF=>?_) (λF O hF=>?_)
   .rw[aP F];exact CJ.from hF (aN.O tM)
   .rw[aT F];exact CJ.from hF (aN.O tM)
  have az:∀{X:E}{os:N},J L X->bd X os (kU e A 0 C)->bJ dN 107 [.agg #[N.v d,N.v p],vi I,vi A.br,N.v wv,N.v os] X _:=λS ho=>Cx (aC.ext (Q.eH.da.O S)) aV hq V A.br (aL.ext S) ho V a2
  have ar:∀{M U:E},J L M->J M U->∀ao,ao<6->aR U K.size ao=aR M K.size ao:=λh1 H ao hi=>by
   have T:=a5.ext h1;match ao,hi with
   |0,_=>exact H.db (T.dz 0)
   |1,_=>exact H.db (T.dz 1)
   |2,_=>exact H.db (T.dz 2)
   |3,_=>exact H.db (T.dz 3)
   |4,_=>exact H.db (T.dz 4)
   |5,_=>exact H.db (T.dz 5)
  have MG:∀{M U:E},J L M->J M U->aR U q 0=aR M q 0/\aR U q 1=aR M q 1:=λh1 H=>⟨H.db (h1.aR (Q.eH.bT.dz 0)),H.db (h1.aR (Q.eH.bT.dz 1))⟩
  have oT:∀{X:E},J L X->sq 218 [vp q 0,xv A ac ad,N.v wv] X (kU e A 0 C):=λS=>Jg (aC.ext (Q.eH.da.O S)) (S.aR (Q.eH.bT.dz 0)) (S.aR (Q.eH.bT.dz 1)) bj ac ad (aL.ext S) V
  have sm:∀{M U:E},J L M->J M U->gL [K.size,m.size] M U:=λh1 H=>H.fq λan hb=>h1.lt (B5 an hb).1
  have aG:∀{M U:E}{nb:Nat},J L M->J M U->nb<M.size->gL [nb,K.size,m.size] M U:=λh1 H aD=>H.fq λan hb=>by
   rcases aY.1 hb with rfl|hb
   .exact aD
   .exact h1.lt (B5 an hb).1
  refine⟨(oT di).aO ?_,?_⟩
  .rintro _ aq ⟨os,rfl,oo,R⟩
   have io:bd aq os (kU e A 0 C):=bd.jM oo V
   refine⟨sm di R,os,rfl,ar di R 1 V,(MG di R).1,(MG di R).2,?_,?_⟩
   .refine(az R io).aO ?_
    rintro _ aF ⟨b1,b2,b3,rfl,P⟩
    have aA:=P.ext
    have aH:=R.O aA
    refine⟨sm R aA,_,_,_,_,_,_,rfl,?_⟩
    intro aM
    have aB:=px aM
    have G:=ar aH aB
    have Z:=MG aH aB
    refine⟨G 0 V,G 1 V,G 2 V,G 3 V,G 4 V,G 5 V,G 1 V,Z.1,Z.2,?_⟩
    intro ak
    have aO:J aF ak:=aB.aV bW _ _
    have a8:ak.size=aF.size+1:=by simp[ak,aM,bD]
    have aI:=P.lo
    exact j7 aq ak aF.size b1 b2 b3 R (P.Lk aO) ⟨by have:=aA.aP;omega,V⟩ ⟨V,V,V⟩
   .intro aB
    obtain⟨ak,aO⟩:=pu aB
    have G:=ar R ak
    have Z:=MG R ak
    refine⟨G 0 V,G 1 V,G 2 V,G 3 V,G 4 V,G 5 V,G 1 V,Z.1,Z.2,?_⟩
    clear_value aB
    refine(az (R.O ak) (io.ext ak)).aO ?_
    rintro _ aM ⟨b1,b2,b3,rfl,P⟩
    have aA:=P.ext
    refine⟨aG (R.O ak) aA V,_,_,_,_,_,_,rfl,?_⟩
    intro aF
    have aI:=P.lo
    have aH:=P.bT ak (nb:=aq.size) bW V 0 [.i I,.i 0,.i A.br,.s (.mk b1 0 B.aT.toNat B.aT.toNat),.s (.mk b2 0 B.aT.toNat B.aT.toNat),.s (.mk b3 0 B.aT.toNat B.aT.toNat)]
    exact j7 aq aF aq.size b1 b2 b3 R aH ⟨bW,by simp only[aF,bD];have:=aA.aP;omega⟩ ⟨V,V,V⟩
  .intro aA
   obtain⟨R,aO⟩:=pu aA
   have G:=ar di R
   have Z:=MG di R
   refine⟨G 0 V,G 1 V,G 2 V,G 3 V,G 4 V,G 5 V,G 1 V,Z.1,Z.2,?_⟩
   clear_value aA
   refine(oT R).aO ?_
   rintro _ aH ⟨os,rfl,oo,Y⟩
   have io:bd aH os (kU e A 0 C):=bd.jM oo V
   have ak:=R.O Y
   have a8:=Y.aP
   refine⟨aG R Y V,os,rfl,ar R Y 1 V,(MG R Y).1,(MG R Y).2,?_⟩
   refine(az ak io).aO ?_
   rintro _ aM ⟨b1,b2,b3,rfl,P⟩
   have aq:=P.ext
   refine⟨aG ak aq V,_,_,_,_,_,_,rfl,?_⟩
   intro aB
   have aI:=P.lo
   have aF:=P.bT ak (nb:=L.size) bW V 0 [.i I,.i 0,.i A.br,.s (.mk b1 0 B.aT.toNat B.aT.toNat),.s (.mk b2 0 B.aT.toNat B.aT.toNat),.s (.mk b3 0 B.aT.toNat B.aT.toNat)]
   exact j7 L aB L.size b1 b2 b3 di aF ⟨bW,by simp only[aB,bD];have:=aq.aP;omega⟩ ⟨V,V,V⟩
def Rf(S:ST u n m q dB (SB d p a cC t j) cC t j a.cC a.aQ c b r y h z)(ad:c.length<=100000)(w:Int)(Q:∀g,c.getLast?=some g->0<=b.br/\b.br<g.aT.length/\b.br<g.bF.length):
 bJ dN 180 [vp q 0,fv b r y h,vi w] m λ_ X=>CJ u n m q d p (match c.getLast? with|none=>{a with dT:=0,je:=w,bn:=[]}|some g=>{a with bn:=c.dropLast++[g.cB b.br w (gE w)]}) X:=by
 apply zH (q,0)
 simp -zeta only[dU]
 intro k
 obtain⟨W,s1⟩:=pu k
 let⟨f,t1⟩:=S.ext W
 have L:n m.size=0:=S.eH.bI _ bW
 have x:CF n k [m.size]:=λB D=>by simp at D;subst D;exact⟨V,L⟩
 clear_value k
 have E:=f.jz.DT
 have ab:=f.jz.rE.le
 have J:eR ((j.len:Int) -1)=(c.length:Int):=by grind [dt]
 have K:Int.toNat (c.length:Int)=c.length:=V
 have C:aR k q 8=some j.v:=f.eH.bT.dz 8
 refine⟨j,C,j,C,?_⟩
 rw[J,K]
 refine⟨V,V,V,f.eH.pE (i:=8) bO,?_⟩
 intro Y
 let⟨o,t2⟩:=f.eH.lL 8 [.s (j.cut 0 c.length 6)]
 obtain⟨e,_⟩:=o.mw (dZ.cZ _ o.bI) o.bn.pop
 have l:=x.to t2
 have ac:(j.cut 0 c.length 6).len=c.length:=by
  cases j with
  |nil=>simp at E
  |Dx B G sp=>simp at E
  |mk B G A v=>simp[N.cut]
 refine⟨t2.fR x,j.cut 0 c.length 6,e.bT.dz 8,λv=>?_,λv=>?_⟩
 .simp at v
  have M:c=[]:=by grind [List.length_eq_zero_iff]
  subst M
  refine⟨e.pE (i:=2) (by simp[mg]),?_⟩
  intro Z
  let⟨A,t3⟩:=e.lL 2 [.i 0]
  have H:=l.to t3
  refine⟨t3.fR l,A.pE (i:=3) (by simp[mg]),?_⟩
  intro O
  let⟨I,F⟩:=A.lL 3 [.i w]
  exact⟨F.fR H,n,cC,t,_,I,(((t1.O t2).O t3).O F)⟩
 .simp at v
  have ae:c.length≠0:=V
  have U:c≠[]:=cG
  obtain⟨g,F⟩:∃g,c.getLast?=some g:=⟨_,rf U⟩
  let⟨I,M,O⟩:=Q g F
  rw[F]
  simp only[]
  have R:c=c.dropLast++[g]:=by
   grind [List.getLast?_eq_some_getLast,List.dropLast_concat_getLast]
  have A:zP u n Y q dB (SB d p a cC t (j.cut 0 c.length 6)) cC t (j.cut 0 c.length 6) a.cC a.aQ (c.dropLast++[g]):=
   ⟨e.da,e.ni,e.bI,e.bT,e.Yp,e.cC,e.aQ,by rw[<-R];exact e.bn⟩
  let⟨r',G,h',aa,T⟩:=A.bn.jz
  have P:c.dropLast.length<=100000:=cG
  refine(xQ (b:=a) ⟨A,T⟩ P I M O w).aO ?_
  rintro _ Z ⟨H,t3⟩
  exact⟨t3.fR l,n,cC,t,_,H.eH,(t1.O t2).O t3⟩
end
section
variable{g:cV}{a:Instr}
def we.HE{b:St}{c:ak}{f:bS}(C:we g b c f a){bF:ab}(j:bF=bV f.aT f.bF (bY g a))(i:∀o∈bF,0<=o):
 iW b.aQ (λd=>oF c d+jg f.aT bF d+kC ((bY g a).map (D f.aT)) d)/\∀d,0<=oF c d+jg f.aT bF d:=by
 have e:=Cc (aT:=f.aT) (bY g a) f.bF C.Ox C.SD.1
 rw[<-j]at e
 refine⟨C.ok.aQ.congr λd=>?_,λd=>?_⟩
 .rw[C.fr,jN,oG,e];omega
 .have:=Ke (b:=c) (λh k=>C.ok.bn h cG) d
  have:=Am (aT:=f.aT) i d
  omega
def Ie{a:af}{t jJ:Int}(h:jJ∈cT a t):1<=t/\t<=a.length/\(tJ (cT a t) jJ:Int)=jJ -fc a (t.toNat -1)/\(fc a (t.toNat -1):Int)<=jJ:=by
 unfold cT at h⊢;by_cases d:1<=t/\t<=a.length
 .rw[ba d]at h⊢;let⟨b,hd⟩:=dY a (t.toNat -1);rw[hd]at h⊢;simp only[rZ,uv]at h⊢;let⟨i,c,e⟩:=fu.1 h;rw[qQ]at c;have f:tJ ((List.range b.dS.length).map λi=>((fc a (t.toNat -1)+i:Nat):Int)) jJ=i:=by
   unfold tJ;rw[List.findIdx_eq cG];constructor<;>grind
  grind
 .grind
def Td{d a b:Int}(i:mI a)(j:mI b)(m:E):Gg dN 176 [vi d,vi a,vi b] m (vi (SS d a b)):=by
 have k:∀n:Int,-2000000<=n/\n<=2000000->Gg dN 212 [vi (eR n)] m (vi (JO n)):=λn o=>by
  apply LV;grind [dt,J.cZ,JO]
 unfold mI at i j;have l: -2000000<=a*b/\a*b<=2000000:=by
  have c:(a*b).natAbs<=999*999:=by rw[Int.natAbs_mul];exact QK V V
  omega
 apply Of;unfold SS;refine⟨λc=>?_,λc=>⟨λe=>?_,λe=>⟨λf=>?_,λf=>⟨λg=>⟨λh=>?_,λh=>?_⟩,λg=>?_⟩⟩⟩⟩
 .grind [Gg.bZ]
 .grind [Gg.bZ]
 .grind [Gg.bZ]
 .grind [J.cZ]
 .grind [J.cZ]
 .grind [J.cZ]
variable{q:E}{j:ag}{m:E}{t:Nat}{d p cC n k:N}{b:St}{c:ak}{f:bS}{r o h:N}{u:List ae}
def Oe(C:we g b c f a){bF:ab}(ap:bF=bV f.aT f.bF (bY g a))(hM:iR g b f a bF)
 (ac:ST q j m t dB (SB d p b cC n k) cC n k b.cC b.aQ c {f with bF:=bF} r o h u)(aE:iF q d p g){am aK:N}(ha:bd q am a.aN)(hj:bd q aK a.fQ)(bc:b.aQ.length<=900000000)(bl:b.cC.length<=900000000):
 bJ dN 119 [vp t 0,fv f r o h,xv a am aK] m λ_ S=>CJ q j m t d p (dI g b c f a bF) S:=by
 apply xP (t,0)
 simp -zeta only[dU]
 intro m1 B
 have a6:J m B:=((J.cZ m).cw _).cw _
 have s1:=pz m1
 have s2:B.size=m.size+2:=by simp[B,s1]
 have F:=CF.MG ac.eH.bI s1 s2
 have W:dJ B m1.size dV [.i a.op,.i a.br,.i a.cE,.i a.cY,.s am,.s aK]:=dJ.push m1 _ _
 have kF:dJ B m.size iz [.i f.fY,.i f.pc,.i f.br,.s r,.s o,.s h]:=(dJ.push m _ _).ext (J.push m1 _)
 let⟨y,t2⟩:=ac.ext a6
 clear_value B
 have bk:bF.length=f.bF.length:=by rw[ap];exact mh _ _ _
 have be:=C.SD
 have G:=C.oC
 have hd:=C.br
 have a3:=C.F.pc
 obtain⟨pq,_,a4,hP,a_,hI⟩:=C.I
 rw[a4]at a3
 have bm:=hP.aS
 have ak:0<=f.pc/\f.pc<=100000:=V
 have aO:=C.ok.mQ
 have a9:=C.ok.df
 have bg:=C.ok.dG
 rw[C.fr]at aO
 have bb:c.length<=1000:=by simp at aO;omega
 have aF:f.aT.length=bF.length/\f.cQ.length=bF.length/\bF.length<=2000:=V
 have bp:r.len=f.aT.length:=by have:=ac.jz.aT.aS;simp at this;omega
 have bi:o.len=bF.length:=by have:=ac.jz.bF.aS;simp at this;omega
 have a7:=ha.aS
 have e4:eR (f.pc+1)=f.pc+1:=iC
 have aa:1<=a.aN.length->0<=D a.aN 0/\D a.aN 0<f.aT.length:=λL=>C.arg _ (gS V V)
 have O:∀{S},J q S->1<=a.aN.length->aR S am.bq (am.off+Int.toNat (0:Int)*1)=some (vi (D a.aN 0)):=λhx L=>(ha.ext hx).um V V
 have U:∀{j m bx cC n k lo lh o h u own'},ST q j m t dB bx cC n k lo lh c {f with bF:=own'} r o h u->∀{ar:Int},0<=ar->ar<f.aT.length->aR m r.bq (r.off+ar.toNat*1)=some (vi (D f.aT ar)):=λac ar h0 L=>(ac.Es (by simp only[];omega)).um h0 L
 have aN:=C.HE ap hM.nn
 have a1:∀{j m n lh bx},ST q j m t dB bx cC n k b.cC lh c {f with bF:=bF} r o h u->oU m k (c++[{f with bF:=bF}]):=λac=>ac.eH.bn.PR fj (λaf H=>by
  rcases bR.1 H with H|H
  .have Z:=C.ok.bn af (by rw[C.fr];exact dK _ H);obtain⟨pg,_,av,an,_⟩:=Z.Aj C.ok.gW;have L:=Z.lr;have P:=Z.lo;have h3:=Z.lh;rw[av]at L P h3;have:=an.aT;omega
  .simp at H;subst H;simp only[];omega)
 have aS:∀r',r'∈a.aN->D f.aT r'<1000->mI (D f.aT r'):=λr' a5 bf=>by
  have ao:=C.arg r' a5;rcases C.F.YG _ (gS ao.1 ao.2)with Q|Q
  .exact Q
  .omega
 have aL:∀{ad:E}(hx:J B ad)(Y:Int)(s':St),s'={b with bn:=c++[bS.cB {f with bF:=bF,pc:=f.pc+1} a.br Y 0]}->
  bJ dN 175 [vp t 0,vi a.br,vi Y] ad λ_ S=>gL [m1.size,m.size] ad S/\CJ q j m t d p s' S:=λhx Y s' v=>by
  let⟨SM,tM⟩:=y.ext hx
  refine(Fm SM V hd.1 (by simp only[];omega) (by simp only[];omega) Y ak).aO ?_
  rintro _ S ⟨S',t'⟩
  exact⟨t'.fR (F.to tM),j,cC,n,k,by rw[v];exact S'.eH,(t2.O tM).O t'⟩
 have aD:∀{ad:E}(hx:J B ad)(aH:Int)(s':St),s'={b with bn:=c++[{f with bF:=bF,pc:=aH}]}->
  bJ dN 182 [vp t 0,vi aH] ad λ_ S=>gL [m1.size,m.size] ad S/\CJ q j m t d p s' S:=λhx aH s' v=>by
  let⟨SM,tM⟩:=y.ext hx
  refine(mT SM V aH).aO ?_
  rintro _ S ⟨S',t'⟩
  exact⟨t'.fR (F.to tM),j,cC,n,k,by rw[v];exact S'.eH,(t2.O tM).O t'⟩
 refine⟨λv=>?_,λe0=>?_⟩
 .simp at v
  exact aL di _ _ (by unfold dI;simp only[];rw[ba v])
 simp only[a8]at e0
 refine⟨λv=>?_,λe1=>?_⟩
 .simp only[eD,bP]at v
  have P:=G.2.2.1 V
  have w:=aa V
  have I:0<=D a.aN 1/\D a.aN 1<f.aT.length:=C.arg _ (gS V V)
  have K:=hM.nL V
  refine⟨V,V,_,O y.eH.da V,w.1,V,_,U y w.1 w.2,V,V,_,(ha.ext y.eH.da).um (i:=1) V V,I.1,V,_,U y I.1 I.2,?_⟩
  refine(Td (aS _ (gS V V) (K _ (gS V V))) (aS _ (gS V V) (K _ (gS V V))) B).aO ?_
  rintro _ A ⟨rfl,z⟩
  refine⟨z.fq (λT hb=>(F T hb).1),_,rfl,z.db (W.dz 1),aL z _ _ ?_⟩
  unfold dI;simp only[];rw[aU e0,ba v]
 simp only[cU,a8]at e1
 have aj:¬(a.op=1\/a.op=2\/a.op=3\/a.op=4):=V
 refine⟨λv=>?_,λe5=>?_⟩
 .simp only[bP]at v
  have P:=G.2.1 V
  have w:=aa V
  have ae:(N.len cC)=b.cC.length:=by have:=y.eH.cC.aS;simp at this;omega
  refine⟨cC,y.eH.bT.dz 6,V,V,_,O y.eH.da V,w.1,V,_,U y w.1 w.2,?_⟩
  intro A
  have z:=px A
  have np:jt A B.size 0 [.i (D f.aT (D a.aN 0))]:=(dJ.push B _ _).kV
  let⟨K,t3⟩:=y.ext z
  have B3:=F.to t3
  clear_value A
  refine⟨z.db (y.eH.bT.dz 6),iJ.fy (f:=[.i 0]) (x:=.mk B.size 0 1 1) (new:=[.i (D f.aT (D a.aN 0))]) K.eH.cC K.eH.bI rfl np (by simp only[N.lJ];omega) λal au m4 q1 q2=>?_⟩
  have R:iJ al m4 bE 1 2 au ((b.cC++[D f.aT (D a.aN 0)]).map Ce.i):=sp q1
  let⟨M,I⟩:=K.P6 q2 R
  have B4:=B3.to I
  refine⟨I.fR B3,M.eH.pE (i:=6) bO,?_⟩
  intro m5
  let⟨S5,X⟩:=M.lL 6 [.s au]
  refine⟨X.fR B4,V,V,_,O S5.eH.da V,w.1,V,_,U S5 w.1 w.2,?_⟩
  refine(Fm (b:={b with cC:=b.cC++[D f.aT (D a.aN 0)]}) S5 V hd.1 (by simp only[];omega) (by simp only[];omega) _ ak).aO ?_
  rintro _ m6 ⟨S6,t6⟩
  refine⟨t6.fR (B4.to X),al,au,n,k,?_,(((t2.O t3).O I).O X).O t6⟩
  unfold dI;simp only[];rw[aU e0,aU aj,ba v];exact S6.eH
 simp only[a8]at e5
 have aT:∀Y∈f.cQ,Y≠0->1000<=Y/\ix Y<b.aQ.length:=λY hw aG=>by
  obtain⟨L,dd,a0,_⟩:=C.Ps Y hw aG;exact⟨L,bA a0⟩
 refine⟨λv=>?_,λe6=>?_⟩
 .simp only[bP]at v
  have h6:=G.2.2.2.2.1 v
  refine(yT y ha C.arg G.1 a.cE aF (by simp only[];omega) ⟨h6.1,h6.2.1⟩ ak V V aT).aO ?_
  rintro _ A ⟨ai,ah,ag,ae,L3,t3⟩
  refine⟨t3.fR F,ai,ah,ag,ae,?_,t2.O t3⟩
  have:dI g b c f a bF=rm b c {f with bF:=bF} a a.cE:=by
   unfold dI rm;simp only[];rw[aU e0,aU aj,aU e5,ba v];rfl
  rw[this];exact L3
 simp only[a8]at e6
 refine⟨λv=>?_,λaC=>?_⟩
 .simp only[bP]at v
  have ay:=G.2.2.2.2.2.1 v
  have ao:a.cY=0:=by rcases hI.cY with Q|Q;exact Q;omega
  have az:(gJ g.bQ).length<=12:=by
   have:=tI C.ok.gW.kQ.dh g.bQ.length;rw[qu _ _ bW]at this;exact this
  refine⟨d,y.eH.bT.dz 0,(uL (aE.ext y.eH.da).bQ C.ok.gW.kQ.dh).aO ?_⟩
  rintro _ A ⟨rfl,z⟩
  let⟨K,t3⟩:=y.ext z
  have e3:eR (((gJ g.bQ).length:Int)+a.cE)=cJ g+a.cE:=iC
  refine⟨t3.fR F,_,rfl,z.db (W.dz 2),z.db (W.dz 0),z.db (W.dz 1),z.db (W.dz 2),z.db (W.dz 3),z.db (W.dz 4),z.db (W.dz 5),z.db (kF.dz 0),z.db (kF.dz 1),z.db (kF.dz 2),z.db (kF.dz 3),z.db (kF.dz 4),z.db (kF.dz 5),?_⟩
  rw[e3]
  refine(yT K ha C.arg G.1 (cJ g+a.cE) aF (by simp only[];omega) (by rw[ao];omega) ak V V aT).aO ?_
  rintro _ m4 ⟨al,ax,aq,aw,R,I⟩
  refine⟨I.fR (F.to t3),al,ax,aq,aw,?_,(t2.O t3).O I⟩
  have:dI g b c f a bF=rm b c {f with bF:=bF} a (cJ g+a.cE):=by
   unfold dI rm;simp only[];rw[aU e0,aU aj,aU e5,aU e6,ba v,aU (λhh=>hh.1 ao)];rfl
  rw[this];exact R
 simp only[a8]at aC
 refine⟨λv=>?_,λe9=>?_⟩
 .simp only[eD,bP]at v
  have R:=hI.op
  unfold kL at R
  refine(Ra y aE C.ok.gW ha C.arg G.1 V (λe'=>?_) (λe'=>⟨G.2.2.1 V,hM.apply e'⟩) aF (λaf H=>?_) ak V V V V C.ok.aQ).aO ?_
  .rw[aU V,aU V,aU V,aU V,ba e']at R;exact R
  .have Z:=C.ok.bn af (by rw[C.fr];exact dK _ H)
   obtain⟨pg,_,av,an,_⟩:=Z.Aj C.ok.gW
   have L:=Z.lr
   have P:=Z.lo
   have h3:=Z.lh
   rw[av]at L P h3
   have:=an.aT
   omega
  rintro _ A ⟨ai,ah,ag,ae,L3,t3⟩
  refine⟨t3.fR F,ai,ah,ag,ae,?_,t2.O t3⟩
  have:dI g b c f a bF=uV g b c {f with bF:=bF} a:=by
   unfold dI uV;simp only[];rw[aU e0,aU aj,aU e5,aU e6,aU aC,aU V,aU V,aU V,aU V,aU V,aU V,aU V,aU V];by_cases e9:a.op=9
   .rw[ba e9,ba e9];rfl
   .rw[aU e9,aU e9];by_cases Z:a.op=24
    .rw[ba Z,ba Z];rfl
    .rw[aU Z,aU Z,ba V]
  rw[this];exact L3
 simp only[cU,a8]at e9
 refine⟨λv=>?_,λaW=>?_⟩
 .simp only[bP]at v
  have P:=G.2.1 V
  have w:=aa V
  refine⟨V,V,_,O y.eH.da V,w.1,V,_,U y w.1 w.2,(Rf y V (D f.aT (D a.aN 0)) (λaf H=>?_)).aO ?_⟩
  .have aG:c≠[]:=λv=>by rw[v]at H;simp at H
   have Z:c=c.dropLast++[af]:=by
    rw[rf aG]at H;simp at H;rw[<-H];exact(rY aG).symm
   have av:c.length=c.dropLast.length+1:=by
    have:=jO List.length Z;simpa using this
   let⟨q1,q2,q3⟩:=C.ok.tG c.dropLast.length af f (by rw[C.fr,Z];simp) (by rw[C.fr,<-av];simp)
   have an:=C.ok.bn af (by rw[C.fr,Z];simp)
   have:=an.lr
   have:=an.lo
   exact⟨q1,by show f.br<_;omega,by show f.br<_;omega⟩
  rintro _ A ⟨ai,ah,ag,ae,L3,t3⟩
  refine⟨t3.fR F,ai,ah,ag,ae,?_,t2.O t3⟩
  unfold dI
  simp only[]
  rw[aU e0,aU aj,aU e5,aU e6,aU aC,aU V,aU V,aU V,aU V,aU V,aU V,aU V,aU V,aU V,aU V,aU V]
  exact L3
 simp only[a8]at aW
 have a2:∀(af:St),(if a.op=0 then af else af)=af:=λaf=>by split<;>rfl
 have QM:dI g b c f a bF=(
  if a.op=14 then{b with aQ:=pX b.aQ (D f.aT (D a.aN 0)),bn:=c++[{f with bF:=gT bF (D a.aN 0) (D bF (D a.aN 0)+1),pc:=f.pc+1}]}
  else if a.op=15 then{b with aQ:=pd (jx b.aQ [D f.aT (D a.aN 0)]),bn:=c++[{f with bF:=bF,pc:=f.pc+1}]}
  else if a.op=16\/a.op=17 then xD b c {f with bF:=bF} a
  else if a.op=18 then{b with bn:=c++[bS.cB {f with bF:=bF,pc:=f.pc+1} a.br (D f.aT (D a.aN 0)) (gE (D f.aT (D a.aN 0)))]}
  else if a.op=19 then{b with bn:=c++[bS.cB {f with bF:=bF,pc:=f.pc+1} a.br (D (bt b.aQ (D f.aT (D a.aN 0))).bU a.cE) 0]}
  else if a.op=20 then{b with bn:=c++[{f with bF:=bF,pc:=if D f.aT (D a.aN 0)=0 then a.cE else f.pc+1}]}
  else if a.op=21 then{b with bn:=c++[{f with bF:=bF,pc:=D a.fQ (tJ (cT g.bQ a.cE) (bt b.aQ (D f.aT (D a.aN 0))).jJ)}]}
  else{b with bn:=c++[{f with bF:=bF,pc:=a.cE}]}):=by
  unfold dI
  simp only[]
  rw[aU e0,aU aj,aU e5,aU e6,aU aC]
  by_cases av:a.op=14
  .rw[ba av,ba av]
  rw[aU av,aU av]
  by_cases aw:a.op=15
  .rw[ba aw,ba aw]
  rw[aU aw,aU aw]
  by_cases ax:a.op=16\/a.op=17
  .rw[ba ax,ba ax];rfl
  rw[aU ax,aU ax]
  by_cases ay:a.op=18
  .rw[ba ay,ba ay]
  rw[aU ay,aU ay]
  by_cases az:a.op=19
  .rw[ba az,ba az]
  rw[aU az,aU az]
  by_cases aA:a.op=20
  .rw[ba aA,ba aA]
  rw[aU aA,aU aA]
  by_cases aB:a.op=21
  .rw[ba aB,ba aB]
  rw[aU aB,aU aB]
  have:=C.opc
  rw[ba V]
 rw[QM]
 clear QM a2
 refine⟨λv=>?_,λaM=>?_⟩
 .simp only[bP]at v
  rw[ba v]
  have P:=G.2.1 V
  have w:=aa V
  let⟨Z,bh⟩:=hM.WU v
  let⟨aY,bo⟩:=dH Z
  refine⟨V,V,_,O y.eH.da V,w.1,V,_,U y w.1 w.2,?_⟩
  intro A
  have z:=px A
  have ow:jo B A bE 1 (.mk B.size 0 1 1) ([D f.aT (D a.aN 0)].map Ce.i):=jo.bI (J.cZ B) bE 1 _ 1 bO
  let⟨K,t3⟩:=y.ext z
  have B3:=F.to t3
  have hz:j B.size=0:=y.eH.bI _ bW
  clear_value A
  refine(HP K.eH (bd.jM ow bO) (λ_=>hz) (λY hw=>?_) (λaV hc=>?_) bO V).aO ?_
  .simp at hw;subst hw;exact⟨Z.1,bA aY⟩
  .have:=C.ok.aQ.iu aV hc;have Q:=this.lo;have h6:=this.hi;omega
  rintro _ m4 ⟨aI,c4⟩
  let⟨M,I⟩:=K.jK (c4.aO λaf hk=>bu hk) aI
  have B4:=B3.to I
  have an:D a.aN 0<bF.length:=V
  have bj:0<=D bF (D a.aN 0)/\D bF (D a.aN 0)<=999999:=by
   refine⟨hM.nn _ (gS (l:=bF) w.1 an),?_⟩;have H:=jG (l:=bF) w.1 an;rw[ap]at H;let⟨qq,aJ,aP⟩:=oa _ _ _ _ H;have:=(C.SL qq (aZ aJ)).2;rw[<-ap]at aP;omega
  have aX:eR (D bF (D a.aN 0)+1)=D bF (D a.aN 0)+1:=iC
  refine⟨I.fR B3,V,V,_,O M.eH.da V,V,V,_,O M.eH.da V,w.1,V,D bF (D a.aN 0),(M.Nf (by simp only[];omega)).um w.1 an,w.1,V,M.jz.bF.Tp w.1 an,?_⟩
  rw[aX,e4]
  intro m5
  let⟨S5,X⟩:=M.tX w.1 an (D bF (D a.aN 0)+1)
  refine⟨X.fR B4,(mT (b:={b with aQ:=kK b.aQ [D f.aT (D a.aN 0)]}) S5 V (f.pc+1)).aO ?_⟩
  rintro _ m6 ⟨S6,t6⟩
  exact⟨t6.fR (B4.to X),j,cC,n,k,S6.eH,(((t2.O t3).O I).O X).O t6⟩
 simp only[a8]at aM
 rw[aU aM]
 have aV:a.aN.length=1->a.aN=[D a.aN 0]:=λL=>by
  cases hx:a.aN with
  |nil=>rw[hx]at L;simp at L
  |cons an H=>cases H with
   |nil=>rfl
   |cons aX H=>rw[hx]at L;simp at L
 refine⟨λv=>?_,λan=>?_⟩
 .simp only[bP]at v
  rw[ba v]
  have P:=G.2.1 V
  have w:=aa V
  have ht:bY g a=[D a.aN 0]:=by unfold bY;rw[ba V];exact aV V
  have H:=aN.1
  rw[ht]at H
  refine⟨n,y.eH.bT.dz 7,V,V,_,O y.eH.da V,w.1,V,_,U y w.1 w.2,?_⟩
  intro A
  have z:=px A
  have ow:jo B A bE 1 (.mk B.size 0 1 1) ([D f.aT (D a.aN 0)].map Ce.i):=jo.bI (J.cZ B) bE 1 _ 1 bO
  let⟨K,t3⟩:=y.ext z
  have B3:=F.to t3
  clear_value A
  refine⟨z.db (y.eH.bT.dz 7),(Kw K.eH.aQ K.eH.bI (bd.jM ow bO) (e:=λT=>oF c T+jg f.aT bF T) (H.congr λT=>rfl) aN.2 V).aO ?_⟩
  rintro _ m4 ⟨al,aq,rfl,aI,c4⟩
  let⟨M,I⟩:=K.jK c4 aI
  have B4:=B3.to I
  refine⟨I.fR B3,aq,rfl,M.eH.pE (i:=7) bO,?_⟩
  intro m5
  let⟨S5,X⟩:=M.lL 7 [.s aq]
  rw[e4]
  refine⟨X.fR B4,(mT (b:={b with aQ:=pd (jx b.aQ [D f.aT (D a.aN 0)])}) S5 V (f.pc+1)).aO ?_⟩
  rintro _ m6 ⟨S6,t6⟩
  exact⟨t6.fR (B4.to X),al,cC,aq,k,S6.eH,(((t2.O t3).O I).O X).O t6⟩
 simp only[a8]at an
 rw[aU an]
 refine⟨λv=>?_,λal=>?_⟩
 .simp only[eD,bP]at v
  rw[ba v]
  refine(Mo y ha C.arg ⟨G.2.2.2.1 v,G.1⟩ aF ak V V (λau H=>?_) (hM.Em v).1 C.ok.aQ).aO ?_
  .refine⟨hM.nn au H,?_⟩
   let⟨af,hk⟩:=cX.1 H
   simp only[]at hk
   rw[ap]at hk
   let⟨qq,aJ,aP⟩:=oa _ _ _ _ hk
   have:=(C.SL qq (aZ aJ)).2
   omega
  rintro _ A ⟨ai,ah,ag,ae,L3,t3⟩
  exact⟨t3.fR F,ai,ah,ag,ae,L3,t2.O t3⟩
 simp only[cU,a8]at al
 rw[aU V]
 refine⟨λv=>?_,λX=>?_⟩
 .simp only[bP]at v
  rw[ba v]
  have P:=G.2.1 V
  have w:=aa V
  refine⟨V,V,_,O y.eH.da V,w.1,V,_,U y w.1 w.2,(xQ y V hd.1 (by simp only[];omega) (by simp only[];omega) _).aO ?_⟩
  rintro _ A ⟨K,t3⟩
  rw[e4]
  refine⟨t3.fR F,(mT K V (f.pc+1)).aO ?_⟩
  rintro _ m4 ⟨M,I⟩
  exact⟨I.fR (F.to t3),j,cC,n,k,M.eH,(t2.O t3).O I⟩
 simp only[a8]at X
 rw[aU X]
 have ag:=y.rv aE V V (a1 y)
 refine⟨λv=>?_,λK=>?_⟩
 .simp only[bP]at v
  rw[ba v]
  have P:=G.2.1 V
  have w:=aa V
  let⟨Z,H⟩:=hM.pL v
  have R:=hI.op
  unfold kL at R
  simp(disch:=omega) only[aU,ba]at R
  refine⟨V,V,_,O y.eH.da V,w.1,V,_,U y w.1 w.2,(ju ag Z.1 (dH Z).1).aO ?_⟩
  rintro _ A ⟨fl,rfl,I,z⟩
  have M:=I.aS
  refine⟨z.fq (λT hb=>(F T hb).1),_,_,_,rfl,z.db (W.dz 2),z.db (W.dz 1),R.2.1,V,_,I.um R.2.1 H,aL z _ _ rfl⟩
 simp only[a8]at K
 rw[aU K]
 refine⟨λv=>?_,λM=>?_⟩
 .simp only[bP]at v
  rw[ba v]
  have P:=G.2.1 V
  have w:=aa V
  refine⟨V,V,_,O y.eH.da V,w.1,V,_,U y w.1 w.2,λQ=>?_,λQ=>?_⟩
  .simp at Q;exact aD di _ _ (by rw[ba Q])
  .simp at Q;rw[e4];exact aD di _ _ (by rw[aU Q])
 simp only[a8]at M
 rw[aU M]
 refine⟨λv=>?_,λae=>?_⟩
 .simp only[bP]at v
  rw[ba v]
  have P:=G.2.1 V
  have w:=aa V
  let⟨Z,ah⟩:=hM.sM v
  let⟨aY,bh,aI,au⟩:=Ie ah
  have R:=hI.op
  unfold kL at R
  simp(disch:=omega) only[aU,ba]at R
  have aJ:tJ (cT g.bQ a.cE) (bt b.aQ (D f.aT (D a.aN 0))).jJ<(cT g.bQ a.cE).length:=mo ⟨_,ah,bO⟩
  have aX:=hj.aS
  have aP:=R.2.2.1
  have aq:=(C.ok.aQ.iu _ (aZ (dH Z).1)).yH (dH Z).2
  have bj:=C.ok.gW.kQ.dh.aS
  refine⟨V,V,_,O y.eH.da V,w.1,V,_,U y w.1 w.2,(ju ag Z.1 (dH Z).1).aO ?_⟩
  rintro _ A ⟨fl,rfl,I,z⟩
  have e7:eR (a.cE -1)=((a.cE.toNat -1:Nat):Int):=by rw[iC];omega
  rw[e7]
  have ai:=y.eH.da.O z
  refine⟨z.fq (λT hb=>(F T hb).1),_,_,_,rfl,d,z.aR (y.eH.bT.dz 0),(mZ (aE.ext ai).bQ C.ok.gW.kQ.dh V).aO ?_⟩
  rintro _ m4 ⟨rfl,H⟩
  have e8:eR ((bt b.aQ (D f.aT (D a.aN 0))).jJ -((fc g.bQ (a.cE.toNat -1):Nat):Int))=((tJ (cT g.bQ a.cE) (bt b.aQ (D f.aT (D a.aN 0))).jJ:Nat):Int):=by
   rw[iC];omega
  refine⟨H.fq (λT hb=>z.lt (F T hb).1),_,rfl,H.db ((W.ext z).dz 5),?_⟩
  rw[e8]
  refine⟨V,V,_,(hj.ext (ai.O H)).um V V,aD (z.O H) _ _ rfl⟩
 simp only[a8]at ae
 rw[aU ae]
 refine⟨λv=>aD di _ _ rfl,λw=>?_⟩
 simp only[a8]at w
 have:=C.opc
 omega
end
section
def ZO{l a:ab}(h:a.length=l.length):jh (l.map Ce.i) 0 (a.map Ce.i)=a.map Ce.i:=by
 have:=Bv [] (a.map Ce.i) (l.map Ce.i) cG;grind [List.length_nil,List.drop_of_length_le]
section
variable{j:E}{c:ag}{a:E}{g k:Nat}{q:ae}{cC e b:N}{u:ab}{t:ah}{l:ak}{f:bS}{r i h:N}{m:List ae}
def ST.aau(S:ST j c a g k q cC e b u t l f r i h m){bF:ab}(p:bF.length=f.bF.length)(w:0<bF.length):iQ a i.bq i.off (bF.map Ce.i).length/\ST j c (aV a i.bq i.off (bF.map Ce.i)) g k q cC e b u t l {f with bF:=bF} r i h m/\To c a c (aV a i.bq i.off (bF.map Ce.i)):=by
 have T:=S.jz;have B:i.cap≠0:=λk=>by have:=(T.bF.zV k).1;simp at this;rw[this]at p;simp at p;rw[p]at w;simp at w
 have A:=T.bF.bq B;have d:dZ (λs=>s=11+3*l.length) c a c (aV a i.bq i.off (bF.map Ce.i)):=dZ.aV S.eH.bI A.2 _ _;have x:=T.bF.eB (o:=0) (new:=bF.map Ce.i) cG;rw[ZO p,uq]at x;have v:rD c (aV a i.bq i.off (bF.map Ce.i)) b l {f with bF:=bF} r i h m:=⟨T.rE.gX d V,T.aS,T.aP,T.Cr d λs _ y=>V,T.aT.gX d V,x,T.cQ.gX d V⟩;let⟨y,z⟩:=S.eH.mw (d.aO λs C=>V) v.qd;refine⟨?_,⟨y,v⟩,z⟩;have:=T.bF.wr (o:=0) (n:=(bF.map Ce.i).length) cG;grind
end
variable{j:E}{c:ag}{a:E}{g:Nat}{d p cC e b:N}{s:St}
def Te{k:cV}(M:zP j c a g dB (SB d p s cC e b) cC e b s.cC s.aQ s.bn)(I:iF j d p k)(z:eM k s)(aC:∀O∈s.bn,∀A∈O.aT,A<=9223372036854775807)(aE:s.aQ.length<=900000000)(aJ:s.cC.length<=900000000):
 bJ dN 66 [vp g 0] a λ_ m'=>CJ j c a g d p (ns k s) m':=by
 apply AH (g,0)
 simp -zeta only[dU]
 refine⟨s.dT,M.bT.dz 2,λR=>?_,λR=>?_⟩
 .simp at R
  rw[o8 R]
  exact⟨c,cC,e,b,M,dZ.cZ _ M.bI⟩
 have ab:s.dT=3:=sp R
 let⟨n,h,t⟩:=z.split ab
 have aG:s.bn.getLast?=some h:=by rw[t];simp
 have aA:s.bn.dropLast=n:=by rw[t];simp
 have C:we k s n h (bH k h):=⟨z,ab,t,rfl,aC⟩
 have aO:ns k s=(open Classical in if me (bH k h).op/\s.df=s.dG then{s with dT:=1}else if iR k s h (bH k h) (bV h.aT h.bF (bY k (bH k h)))then dI k s n h (bH k h) (bV h.aT h.bF (bY k (bH k h)))else{s with dT:=2}):=by
  unfold ns;rw[aU (sp ab),aG,aA]
 rw[aO]
 generalize bH k h=x at*
 have L':zP j c a g dB (SB d p s cC e b) cC e b s.cC s.aQ (n++[h]):=by rw[<-t];exact M
 let⟨T,L,Q,ar,Y⟩:=L'.bn.jz
 have S:ST j c a g dB (SB d p s cC e b) cC e b s.cC s.aQ n h T L Q ar:=⟨L',Y⟩
 have aY:=Y.DT
 have aj:=z.mQ
 have aX:=z.df
 have a0:=z.dG
 rw[t]at aj
 have aZ:n.length<=1000:=by simp at aj;omega
 have e1:eR ((b.len:Int) -1)=(n.length:Int):=by rw[iC];omega
 have e2:Int.toNat (n.length:Int)=n.length:=V
 have P:aR a g 8=some b.v:=S.eH.bT.dz 8
 let⟨g0,g1,g2,g3,g4,g5⟩:=Y.kV
 refine⟨b,P,b,P,?_⟩
 rw[e1,e2]
 refine⟨V,V,_,g0,_,g1,_,g2,T,g3,L,g4,Q,g5,?_⟩
 intro m1
 have u:=px m1
 refine⟨u.db g0,u.db g1,u.db g2,u.db g3,u.db g4,u.db g5,u.db P,u.db P,?_⟩
 intro w
 have aP:J a w:=u.aV bW _ _
 have s2:w.size=a.size+1:=by simp[w,m1,bD]
 have kF:dJ w a.size iz [.i h.fY,.i h.pc,.i h.br,.s T,.s L,.s Q]:=dJ.aV (m:=m1) (o:=0) (r:=[.i h.fY,.i h.pc,.i h.br,.s T,.s L,.s Q]) (dJ.push a _ _)
 let⟨N,t2⟩:=S.ext aP
 clear_value w
 let⟨a7,hq,aM,hP,az,hI⟩:=C.I
 let⟨pa,pl,pc,a1,a3,al,k0,k1,k2,k3,k4⟩:=I.cO.D hq
 let⟨aq,aQ,ha,hj,i0,i1,i2,i3,i4,i5⟩:=al.D az
 have a4:=I.cO.aS
 have a2:=al.aS
 have hF:=C.F
 have aL:=hF.fY
 have ak:=hF.pc
 rw[aM]at ak
 have l:=N.eH.da
 refine⟨p,N.eH.bT.dz 1,aL.1,V,pc,l.aR k4,ak.1,V,_,l.aR i0,_,l.aR i1,_,l.aR i2,_,l.aR i3,aq,l.aR i4,aQ,l.aR i5,?_⟩
 intro m3
 have q:=px m3
 refine⟨q.db (l.aR i0),q.db (l.aR i1),q.db (l.aR i2),q.db (l.aR i3),q.db (l.aR i4),q.db (l.aR i5),q.db (kF.dz 1),q.db (l.aR k4),q.db (kF.dz 0),q.db (N.eH.bT.dz 1),?_⟩
 intro K
 have ad:J w K:=q.aV bW _ _
 have s4:K.size=w.size+1:=by simp[K,m3,bD]
 let⟨S4,t4⟩:=N.ext ad
 have aS:=kF.ext ad
 have B4:CF c K [w.size,a.size]:=λac H=>by
  simp at H;rcases H with rfl|rfl
  .exact⟨V,S.eH.bI _ V⟩
  .exact⟨V,S.eH.bI _ bW⟩
 clear_value K
 have aW:=t2.O t4
 refine(Ql).aO ?_
 rintro _ m5 ⟨ac,rfl,H,ae⟩
 let⟨v,t5⟩:=S4.ext ae
 have U:=B4.to t5
 have B:=aS.ext ae
 have am:=aW.O t5
 have aF:=C.SD
 have h4:=C.oC
 have aa:(bV h.aT h.bF (bY k x)).length=h.bF.length:=mh _ _ _
 refine⟨t5.fR B4,ac,rfl,λax=>⟨s.df,v.eH.bT.dz 4,s.dG,v.eH.bT.dz 5,λG=>?_,λG=>?_⟩,λaw=>?_⟩
 .simp at G
  refine⟨v.eH.pE (i:=2) bO,?_⟩
  intro m6
  let⟨F,D⟩:=v.lL 2 [.i 1]
  refine⟨D.fR U,c,cC,e,b,?_,am.O D⟩
  rw[ba ⟨H.1 ax,G⟩]
  have:=F.eH
  rw[<-t]at this
  exact this
 all_goals
  have ay:¬(me x.op/\s.df=s.dG):=by
   first
   |exactλy=>by simp at G;exact G y.2
   |exactλy=>fb H aw y.1
  rw[aU ay]
  have ai:=v.eH.da
  refine⟨d,v.eH.bT.dz 0,p,v.eH.bT.dz 1,(Om (I.ext ai) C.jr (ha.ext ai) V h4.2.2.2.1).aO ?_⟩
  rintro _ m6 ⟨ts,rfl,ot,y⟩
  let⟨F,D⟩:=v.ext y
  have B6:=U.to D
  have a5:=MF k x
  have it:bd m6 ts (bY k x):=bd.jM ot V
  refine⟨D.fR U,ts,rfl,y.db (B.dz 0),y.db (B.dz 1),y.db (B.dz 2),y.db (B.dz 3),y.db (B.dz 4),y.db (B.dz 5),?_⟩
  refine(Mp (b:=h) (F.Es V) (F.Nf V) it C.Ox aF.1 V V (λA E=>oh (C.SL A E))).aO ?_
  rintro _ m7 ⟨os,rfl,oo,av⟩
  let⟨A,t7⟩:=F.ext av
  have B7:=B6.to t7
  have io:bd m7 os (bV h.aT h.bF (bY k x)):=bd.jM oo V
  have aD:oU m7 b (n++[h]):=A.eH.bn.PR fj (λO X=>by
   have E:=z.bn O (by rw[t];exact X);obtain⟨pg,_,Z,W,_⟩:=E.Aj z.gW;have q1:=E.lr;have q2:=E.lo;have q3:=E.lh;rw[Z]at q1 q2 q3;have:=W.aT;omega)
  have ag:=A.rv I V V aD
  have aN:({s with bn:=n++[h]}:St)=s:=by rw[<-t]
  rw[aN]at ag
  refine⟨t7.fR B6,os,rfl,(Qn ag C (A.Es V) (A.VU V) (ha.ext A.eH.da) io aa).aO ?_⟩
  rintro _ m8 ⟨b2,rfl,ah,af⟩
  let⟨O,t8⟩:=A.ext af
  have W:=B7.to t8
  have an:=((am.O D).O t7).O t8
  refine⟨t8.fR B7,b2,rfl,λZ=>?_,λZ=>?_⟩
  .rw[aU (nb ah Z)]
   refine⟨O.eH.pE (i:=2) bO,?_⟩
   intro m9
   let⟨X,E⟩:=O.lL 2 [.i 2]
   refine⟨E.fR W,c,cC,e,b,?_,an.O E⟩
   have:=X.eH
   rw[<-t]at this
   exact this
  .have hM:=yb ah Z
   rw[ba hM]
   have aI:=io.aS
   have aH:L.len=h.bF.length:=by have:=O.jz.bF.aS;simp at this;omega
   let⟨w1,X,E⟩:=O.aau aa V
   refine⟨(bV h.aT h.bF (bY k x)).map Ce.i,by rw[aI,aH,aa];simp;omega,(io.ext af).Eu,w1,?_⟩
   intro m9
   have B9:=W.to E
   refine⟨E.fR W,(Oe C rfl hM X I ha hj aE aJ).aO ?_⟩
   rintro _ a6 aB
   let⟨aV,aT,aK,au,ap,ao⟩:=aB
   exact⟨ao.fR B9,aV,aT,aK,au,ap,(an.O E).O ao⟩
end
section
variable{a:cV}{s:St}{n:Nat}
@[grind cases] structure Sm (n:Nat) (s:St):Prop where
 aQ:s.aQ.length<=n
 cC:s.cC.length<=n
 Nw:∀g∈s.bn,∀w∈g.aT,w<=9223372036854775807
def FT:∀(n:Nat)(h:ah)(g:ab),DL h+g.length<=n->(jx h g).length=h.length
 |n,h,[],_=>by rw[uB]
 |0,h,w::r,b=>by simp at b
 |n+1,h,w::r,b=>by
  simp only[dE]at b;rcases fP (iH h w)with a|a
  .let⟨e,f⟩:=dH a;by_cases c:(bt h w).ct=1
   .have d:=lY (d:=kN) e;simp only[ba f,kN]at d;simp at d;rw[uC a c,FT n _ _ (by simp[kN];omega)];simp
   .have d:=lY (d:={bt h w with ct:=(bt h w).ct -1}) e;simp only[ba f]at d;rw[ba V]at d;rw[sB a c,FT n _ _ (by simp only[iG];omega)];simp[iG]
  .rw[sC a,FT n _ _ V]
theorem UX(h:ah):(pd h).length<=h.length:=by grind [pd]
theorem PT:∀(a:ab)(g:ah),(kK g a).length=g.length
 |[],g=>rfl
 |w::a,g=>by rw[kK,PT a];simp[pX]
def Rt(h:ah)(w:Int):(iO h w).length<=h.length:=by
 grind [iO,UX,PT,iG]
def RL(h:ah)(a:Nat)(c:dD):(jB h a c).length<=h.length+1:=by
 grind [jB]
theorem Wa{k:ak}{f:bS}{x:Instr}(C:we a s k f x)(B:Sm n s)(hn:n<=900000000)(bF:ab)(hM:iR a s f x bF):Sm (n+1) (dI a s k f x bF):=by
 have hh:=B.aQ;have ho:=B.cC;have v:=B.Nw;rw[C.fr]at v;have Z:=C.oC;have t:∀r,D f.aT r<=9223372036854775807:=λr=>by
  rcases eJ r.toNat f.aT.length with m|m
  .let⟨y,b⟩:=jk m;rw[OQ b];exact v f bO y (aZ b)
  .rw[D,fE,kX m];simp
 have Cr:∀g∈k,∀w∈g.aT,w<=9223372036854775807:=λg p=>v g (by simp[p]);have c:∀{g:bS},(∀w∈g.aT,w<=9223372036854775807)->∀q∈k++[g],∀w∈q.aT,w<=9223372036854775807:=λp q d=>by
  rcases bR.1 d with d|d
  .exact Cr q d
  .simp at d;subst d;exact p
 have e:∀w∈f.aT,w<=9223372036854775807:=v f bO;have j:∀(I:Int),I<=9223372036854775807->∀w∈gT f.aT x.br I,w<=9223372036854775807:=λI hv w b=>by
  rcases tQ b with rfl|b
  .exact hv
  .exact e w b
 have ac:∀{w},mI w\/iH s.aQ w->w<=9223372036854775807:=λh=>by
  rcases h with h|h
  .have:=h.2;omega
  .have m:=bA (dH h).1;unfold ix at m;omega
 have H:∀(g L:Int)(J:ab),(∀w∈J,w<=9223372036854775807)->∀w∈(cq a g L J).aT,w<=9223372036854775807:=λg L J b w h=>by
  simp only[cq]at h;rcases bR.1 h with h|h
  .exact b w h
  .rw[pG h];omega
 have MG:∀{g q:bS},(∀w∈g.aT,w<=9223372036854775807)->(∀w∈q.aT,w<=9223372036854775807)->∀K∈k++[g,q],∀w∈K.aT,w<=9223372036854775807:=λp d K o=>by
  rcases bR.1 o with o|o
  .exact Cr K o
  .simp at o;rcases o with rfl|rfl
   .exact p
   .exact d
 have aa:∀w∈dO f x.aN,w<=9223372036854775807:=λw b=>by
  obtain⟨r,_,rfl⟩:=fu.1 b;exact t r
 have ad:=sY s.aQ;unfold dI;simp only[];by_cases y:x.op=0
 .rw[ba y];exact⟨by simp only[];omega,by simp only[];omega,c (j _ (oh (Z.2.2.2.2.2.2 y)))⟩
 rw[aU y];by_cases M:x.op=1\/x.op=2\/x.op=3\/x.op=4
 .rw[ba M];exact⟨by simp only[];omega,by simp only[];omega,c (j _ (oh ((PM x.op (D f.aT (D x.aN 0)) (D f.aT (D x.aN 1))).2)))⟩
 rw[aU M];by_cases X:x.op=5
 .rw[ba X];exact⟨by simp only[];omega,fj,c (j _ (t _))⟩
 rw[aU X];by_cases A:x.op=6
 .rw[ba A];split
  .refine⟨fj,by simp only[];omega,c (j _ ?_)⟩;rename_i u;have F:=Z.2.2.2.2.1 A;obtain⟨G,E,z,_⟩:=C.Ps _ (gS (l:=f.cQ) (i:=x.cY -1) V V) u.2;have:=bA z;unfold ix at this;omega
  .refine⟨?_,by simp only[];omega,c (j _ V)⟩;have:=RL s.aQ (fD s.aQ) ⟨1,x.cE,dO f x.aN⟩;simp only[];omega
 rw[aU A];by_cases N:x.op=10
 .rw[ba N];refine⟨?_,by simp only[];omega,c (j _ V)⟩;have:=RL s.aQ (fD s.aQ) ⟨1,cJ a+x.cE,dO f x.aN⟩;simp only[];omega
 rw[aU N];by_cases O:x.op=14
 .rw[ba O];exact⟨by simp[pX];omega,by simp only[];omega,c e⟩
 rw[aU O];by_cases P:x.op=15
 .rw[ba P];refine⟨?_,by simp only[];omega,c e⟩;have m:=UX (jx s.aQ [D f.aT (D x.aN 0)]);rw[FT _ _ _ bW]at m;simp only[];omega
 rw[aU P];by_cases Q:x.op=16\/x.op=17
 .rw[ba Q];split
  .exact⟨fj,by simp only[];omega,c e⟩
  .refine⟨?_,by simp only[];omega,c e⟩;have:=Rt s.aQ (D f.aT (D x.aN 0));simp only[];omega
 rw[aU Q];by_cases R:x.op=18
 .rw[ba R];exact⟨by simp only[];omega,by simp only[];omega,c (j _ (t _))⟩
 rw[aU R];by_cases u:x.op=19
 .rw[ba u];refine⟨by simp only[];omega,by simp only[];omega,c (j _ ?_)⟩;let⟨F,T⟩:=hM.pL u;obtain⟨U,_,_,_,_,S⟩:=C.I;have z:=S.op;unfold kL at z;rw[aU V,aU V,aU V,aU V,aU V,aU V,aU V,ba u]at z;let⟨E,G⟩:=dH F;exact ac (((C.ok.aQ.iu _ (aZ E)).yH G).1 _ (gS z.2.1 T))
 rw[aU u];by_cases S:x.op=20
 .rw[ba S];exact⟨by simp only[];omega,by simp only[];omega,c e⟩
 rw[aU S];by_cases T:x.op=21
 .rw[ba T];exact⟨by simp only[];omega,by simp only[];omega,c e⟩
 rw[aU T];by_cases U:x.op=22
 .rw[ba U];exact⟨by simp only[];omega,by simp only[];omega,c e⟩
 rw[aU U];by_cases Y:x.op=9
 .rw[ba Y];exact⟨by simp only[];omega,by simp only[];omega,MG e (H _ _ _ aa)⟩
 rw[aU Y];by_cases W:x.op=24
 .rw[ba W];exact⟨by simp only[];omega,by simp only[];omega,c (H _ _ _ aa)⟩
 rw[aU W];by_cases z:x.op=11
 .rw[ba z];refine⟨?_,by simp only[];omega,MG e (H _ _ _ λw b=>?_)⟩
  .have:=Rt s.aQ (D f.aT (D x.aN 0));simp only[];omega
  .rcases bR.1 b with b|b
   .obtain⟨F,_⟩:=hM.apply z;let⟨E,G⟩:=dH F;exact ac (((C.ok.aQ.iu _ (aZ E)).yH G).1 _ b)
   .simp at b;subst b;exact t _
 rw[aU z];split
 .exact⟨by simp only[];omega,by simp only[];omega,bO⟩
 .rename_i E F;refine⟨by simp only[];omega,by simp only[];omega,λq d=>?_⟩;have G:E∈k:=List.mem_of_getLast? F;rcases bR.1 d with d|d
  .exact Cr q ((List.dropLast_sublist k).subset d)
  .simp at d;subst d;intro w b;rcases tQ b with rfl|b
   .exact t _
   .exact Cr E G w b
def aaO(h:eM a s)(c:Sm n s)(k:n<=900000000):Sm (n+1) (ns a s):=by
 have b:Sm (n+1) s:=⟨by have:=c.aQ;omega,oh c.cC,c.Nw⟩;by_cases e:s.dT=3
 .let⟨d,f,i⟩:=h.split e;have j:s.bn.getLast?=some f:=cG;have g:s.bn.dropLast=d:=cG;have C:we a s d f (bH a f):=⟨h,e,i,rfl,c.Nw⟩;unfold ns;rw[aU cG,j,g];simp only[];split
  .exact⟨b.aQ,b.cC,b.Nw⟩
  split
  .grind [Wa]
  .exact⟨b.aQ,b.cC,b.Nw⟩
 .grind [o8]
def KT{a:cV}:∀(k:Nat){s:St}{n:Nat},eM a s->Sm n s->n+k<=900000000->Sm (n+k) (bz a k s)
 |0,s,n,_,b,_=>b
 |k+1,s,n,h,b,c=>by
  have:=KT k (Ow h) (aaO h b V) V;grind [bz]
def Qs(a:cV)(dG:Int):Sm 0 (iI a dG):=⟨by simp[iI],by simp[iI],λg b w c=>by
 simp[iI]at b;subst b;simp only[cq,gY]at c;rw[pG c];omega⟩
end
section
variable{a:cV}
section
variable{c:E}{e:ag}{m:E}{b:Nat}{d p cC g f:N}{s:St}
def UD(L:zP c e m b dB (SB d p s cC g f) cC g f s.cC s.aQ s.bn)(D:iF c d p a)(w:eM a s){y:Nat}(C:Sm y s)(h:Nat)(K:h<=100000)(M:y<=500000000):
 bJ dN 57 [vp b 0,vi h] m λG t=>(∃i:Int,G=vi i)/\CJ c e m b d p (bz a h s) t:=by
 apply BP (b,0)
 refine⟨λo t=>∃k:Nat,o=k/\k<=h/\CJ c e m b d p (bz a k s) t,λo _=>((h:Int) -o).toNat,⟨0,rfl,jb _,e,cC,g,f,L,dZ.cZ _ L.bI⟩,?_⟩
 rintro o N ⟨k,rfl,J,A,z,x,u,l,t1⟩
 have E:=AP k w
 have r:=KT k w C V
 refine dit (λB=>?_) λB=>?_
 .refine⟨_,l.bT.dz 2,λv=>?_,λv=>?_⟩
  .refine(Te l D E r.Nw (oh r.aQ) (oh r.cC)).aO ?_
   rintro _ j i
   have q:eR ((k:Int)+1)=((k+1:Nat):Int):=nQ (n:=h) V V
   rw[q]
   refine⟨⟨k+1,rfl,V,by rw[uP];exact i.from t1⟩,?_⟩
   grind
  .simp at v
   have q:bz a h s=bz a k s:=by
    have I:h=k+(h -k):=V;have H:∀(i j:Nat)(s:St),bz a (i+j) s=bz a j (bz a i s):=by
     intro i;induction i with
     |zero=>intro j s;simp[bz]
     |succ i F=>intro j s;rw[Nat.succ_add];simp only[bz];exact F j _
    grind [pK]
   rw[q]
   exact⟨⟨_,rfl⟩,A,z,x,u,l,t1⟩
 .have:k=h:=V
  subst this
  exact⟨⟨_,rfl⟩,A,z,x,u,l,t1⟩
end
def Jm{m:E}{u D:N}(K:iF m u D a)(y:gC a)(dG:Int):
 bJ dN 56 [.agg #[N.v u,N.v D],vi dG] m λS e=>∃cC j v,S=.agg #[vi 3,vi 0,vi 0,vi dG,N.v cC,N.v j,N.v v]/\J m e/\∃b1 b2 b3 b4 k,cC.cap=0/\cC.len=0/\j.cap=0/\j.len=0/\v=.mk b4 0 1 1/\
  tA m e b1 b2 b3 k (cq a 0 0 []).aT (cq a 0 0 []).bF (cq a 0 0 []).cQ/\(b4≠b1/\b4≠b2/\b4≠b3/\m.size<=b4/\b4<e.size)/\dJ e b4 iz [.i 0,.i 0,.i 0,.s (.mk b1 0 k k),.s (.mk b2 0 k k),.s (.mk b3 0 k k)]:=by
 apply Dm
 simp -zeta only[kd]
 intro o A B p r c
 have w:J m c:=((((((J.cZ m).cw _).cw _).cw _).cw _).cw _).cw _
 have M:=pz o
 have O:A.size=m.size+2:=by simp[A,M]
 have P:B.size=m.size+3:=by simp[B,O]
 have Q:p.size=m.size+4:=by simp[p,P]
 have R:r.size=m.size+5:=by simp[r,Q]
 have Y:c.size=m.size+6:=by simp[c,R]
 clear_value c
 have T:=y.kQ.aS
 let⟨q,l⟩:=dY a.cO 0
 have W:=(y.eN q (aZ l)).aT
 have n:dy a 0=q:=by simp[dy,l]
 have C:∀b,bd c (.mk b 0 0 0) []:=λb=>⟨rfl,bO,bO,bO⟩
 refine(Cx (K.ext w) (dR 0) l V 0 (C p.size) (C r.size) fj rfl).aO ?_
 rintro _ s ⟨b1,b2,b3,rfl,d⟩
 have i:=d.ext
 have U:=d.lo
 refine⟨i.fq fj,_,_,_,_,_,_,rfl,?_⟩
 intro f t
 obtain⟨x,Z⟩:=pu f
 have s9:t.size=f.size:=bD _ _ _ _
 have X:=i.aP
 have L:dJ f s.size iz [.i 0,.i 0,.i 0,.s (.mk b1 0 q.aT.toNat q.aT.toNat),.s (.mk b2 0 q.aT.toNat q.aT.toNat),.s (.mk b3 0 q.aT.toNat q.aT.toNat)]:=dJ.push s _ _
 have h:=d.Lk x
 have z:J m t:=(w.O (i.O x)).aV (show m.size<=o.size by omega) _ _
 have g:∀b,b≠o.size->t[b]? =f[b]? :=λb I=>cg _ _ _ _ I
 have H:(cq a 0 0 []).aT=[]++eQ (q.aT.toNat -([]:ab).length):=by simp[cq,n]
 have G:(cq a 0 0 []).bF=[]++eQ (q.aT.toNat -([]:ab).length):=by simp[cq,n,fI]
 have F:(cq a 0 0 []).cQ=eQ q.aT.toNat:=by simp[cq,n]
 refine⟨_,_,_,rfl,z,b1,b2,b3,s.size,q.aT.toNat,rfl,rfl,rfl,rfl,rfl,?_,V,L.congr (g _ V)⟩
 rw[H,G,F]
 exact⟨z,V,h.kr.congr (g _ V),h.ko.congr (g _ V),h.kh.congr (g _ V),d.aS⟩
def ZT{m j g:E}{v:Nat}{QM:ae}{cC i l:N}{dG:Int}{b1 b2 b3 b4 k e:Nat}(c:cC.cap=0/\cC.len=0/\i.cap=0/\i.len=0/\l=.mk b4 0 1 1)
 (p:tA m j b1 b2 b3 k (cq a 0 0 []).aT (cq a 0 0 []).bF (cq a 0 0 []).cQ)(D:b4≠b1/\b4≠b2/\b4≠b3/\m.size<=b4/\b4<j.size)(C:dJ j b4 iz [.i 0,.i 0,.i 0,.s (.mk b1 0 k k),.s (.mk b2 0 k k),.s (.mk b3 0 k k)])
 (d:J j g)(G:j.size<=e)(kb:dJ g e v (QM++[.i 3,.i 0,.i 0,.i dG,.s cC,.s i,.s l])):
 zP m (p7 (p7 (pY (λ_=>0) b1 b2 b3 0) b4 4) e 1) g e v (QM++[.i 3,.i 0,.i 0,.i dG,.s cC,.s i,.s l]) cC i l [] [] [cq a 0 0 []]:=by
 have F:=p.lo
 have B:J m g:=p.ext.O d
 have H:=kb.lt
 have u:∀b,b≠e->b≠b4->(p7 (p7 (pY (λ_=>0) b1 b2 b3 0) b4 4) e 1) b=pY (λ_=>0) b1 b2 b3 0 b:=λb q t=>by rw[fO q,fO t]
 let⟨z,a2,a3⟩:=(p.Lk d).rE (q:=λ_=>0) (w:=0)
 have conv:∀{w:Nat}{s:N}{x:ae},iJ (pY (λ_=>0) b1 b2 b3 0) g bE 1 w s x->s.bq≠e->s.bq≠b4->iJ (p7 (p7 (pY (λ_=>0) b1 b2 b3 0) b4 4) e 1) g bE 1 w s x:=λy q t=>y.fL (λ_=>rfl) (λ_=>u _ q t)
 refine⟨B,λb A=>?_,λb A=>?_,kb,iP,⟨by simp[c.2.1],by rw[c.1,c.2.1];exact bW,bu c.1⟩,⟨[],⟨by simp[c.2.2.2.1],by rw[c.2.2.1,c.2.2.2.1];exact bW,bu c.2.2.1⟩,fK.gD _ _,Sep.gD⟩,?_⟩
 .rw[u b V V];unfold pY;rw[fO V,fO V,fO V]
 .rw[u b (oh d.aP) (oh d.aP)];unfold pY;rw[fO (oh d.aP),fO (oh d.aP),fO (oh d.aP)]
 .refine rD.qd (a:=[]) (f:=cq a 0 0 []) (r:=.mk b1 0 k k) (e:=.mk b2 0 k k) (h:=.mk b3 0 k k) (j:=[]) ⟨?_,rfl,bO,bO,conv z (by simp only[N.mP];omega) (by simp only[N.mP];omega),conv a2 (by simp only[N.mP];omega) (by simp only[N.mP];omega),conv a3 (by simp only[N.mP];omega) (by simp only[N.mP];omega)⟩
  rw[c.2.2.2.2]
  refine⟨rfl,bW,bG ⟨b4,1,[],rfl,?_,?_,rfl⟩⟩
  .grind [fO,iP]
  .rw[fH];exact C.ext d
end
section
variable{a:cV}{b:E}{d p:N}
def Xt(a:cV)(dG:Int):∃s,s=bz a 100000 (iI a dG):=⟨_,rfl⟩
noncomputable def nD (a:cV) (dG:Int):St:=Classical.choose (Xt a dG)
theorem wU(a:cV)(dG:Int):nD a dG=bz a 100000 (iI a dG):=jm (Xt a dG)
theorem KU{dG:Int}(h:gC a)(c:0<=dG/\dG<=40):eM a (nD a dG)/\Sm 100000 (nD a dG)/\(nD a dG).dT≠3:=by
 have b:=FE h c;rw[wU];refine⟨AP _ b,?_,Qu _ b (oh (Wq h c))⟩;have:=KT 100000 b (Qs a dG) V;grind
def NL(w:iF b d p a)(o:gC a){dG:Int}(x:0<=dG/\dG<=40):
 bJ dN 31 [.agg #[N.v d,N.v p],vi dG] b λW A=>∃cC q j,W=.agg #[vi (nD a dG).dT,vi (nD a dG).je,vi (nD a dG).df,vi (nD a dG).dG,N.v cC,N.v q,N.v j]/\bd A cC (nD a dG).cC/\J b A:=by
 apply IW
 simp -zeta only[kd]
 intro g e
 have r:J b e:=((J.cZ b).cw _).cw _
 have T:=pz g
 have s2:e.size=b.size+2:=by simp[e,T]
 have z:dJ e b.size lV [.s d,.s p]:=(dJ.push b _ _).ext (J.push g _)
 clear_value e
 have n:∀f∈[g.size,b.size],f<e.size:=fj
 refine(Jm (w.ext r) o dG).aO ?_
 rintro _ B ⟨cC,q,j,rfl,k,b1,b2,b3,b4,Y,M,O,P,Q,R,C,S,K⟩
 refine⟨k.fq n,_,_,_,_,_,_,_,rfl,k.db (z.dz 0),k.db (z.dz 1),?_⟩
 intro h
 have G:=px h
 have kb:dJ h B.size dB ([.s d,.s p]++[.i 3,.i 0,.i 0,.i dG,.s cC,.s q,.s j]):=dJ.push B _ _
 have i:=ZT (m:=e) ⟨M,O,P,Q,R⟩ C S K G bW kb
 clear_value h
 have H:CF _ h [g.size,b.size]:=λf v=>⟨i.da.lt (n f v),i.ni f (n f v)⟩
 refine(UD (s:=iI a dG) i (w.ext r) (FE o x) (Qs a dG) 100000 bW V).aO ?_
 rintro _ Z ⟨⟨L,rfl⟩,aa,t,y,u,c,U⟩
 rw[<-wU]at c
 have X:=(KU o x).2.1.cC
 refine⟨U.fR H,L,rfl,_,c.bT.dz 2,_,c.bT.dz 3,_,c.bT.dz 4,_,c.bT.dz 5,t,c.bT.dz 6,y,c.bT.dz 7,u,c.bT.dz 8,?_⟩
 intro m6
 refine⟨t,y,u,rfl,jV (c.cC.nL V) λI=>cg _ _ _ _ λD=>?_,(r.O c.da).aV V _ _⟩
 have l:t.cap≠0:=λl=>by have:=(c.cC.zV l).1;simp at this;exact I this
 have E:=(c.cC.bq l).2
 have F:=c.ni g.size V
 rw[D,F]at E
 omega
structure Exe where
 dT:Int
 je:Int
 df:Int
 cC:ab
 ok:Bool
open Classical in
noncomputable def oR (a:cV) (dG:Int):Exe:=
 if gC a/\0<=dG/\dG<=40 then⟨(nD a dG).dT,(nD a dG).je,(nD a dG).df,(nD a dG).cC,true⟩else⟨0,0,0,[],false⟩
def aag(b a:E)(x:Exe)(v:Value):Prop:=∃cC,v=.tuple #[.agg #[vi x.dT,vi x.je,vi x.df,cC.v],vb x.ok]/\jo b a bE 1 cC (x.cC.map Ce.i)/\J b a
def KH{d f g e:Int}{cC k j:N}{l:ab}(r:bd b cC l)(p:l.length<=1000000000):
 bJ dN 30 [.agg #[vi d,vi f,vi g,vi e,cC.v,k.v,j.v]] b λv n=>∃q,v=.agg #[vi d,vi f,vi g,q.v]/\jo b n bE 1 q (l.map Ce.i)/\J b n:=by
 apply Fg
 simp -zeta only[dU]
 intro o c
 have m:J b c:=((J.cZ b).cw _).cw _
 have u:=pz o
 have w:c.size=b.size+2:=cG
 have h:dJ c b.size vd [.i d,.i f,.i g,.i e,.s cC,.s k,.s j]:=(dJ.push b _ _).ext (J.push o _)
 clear_value c
 refine(oJ (r.ext m) p).aO ?_
 rintro _ s ⟨q,rfl,i,a⟩
 refine⟨a.fq cG,q,rfl,a.db (h.dz 2),a.db (h.dz 1),a.db (h.dz 0),?_⟩
 intro t
 refine⟨q,rfl,?_,(m.O a).aV V _ _⟩
 rcases i.bq with e|e
 .subst e;exact⟨i.aS,bu rfl⟩
 .exact(i.congr (cg _ _ _ _ V)).da V
def NE(x:iF b d p a)(dG:Int):bJ dN 9 [.agg #[d.v,p.v],vi dG] b λF C=>aag b C (oR a dG) F:=by
 apply IG;simp -zeta only[dU];intro k f;have j:J b f:=((J.cZ b).cw _).cw _;have Q:=pz k;have R:f.size=b.size+2:=cG;clear_value f;have i:∀c∈[k.size,b.size],c<f.size:=cG;have y:∀{r:E},J f r->¬(gC a/\0<=dG/\dG<=40)->aag b (aV r k.size 0 [.i (0:Int),.i (0:Int),.i (0:Int),.s N.nil]) (oR a dG) (.tuple #[.agg #[vi (0:Int),vi (0:Int),vi (0:Int),N.v N.nil],vb false]):=λh z=>by
  rw[oR,aU z];exact⟨.nil,rfl,jo.gD _ _ _ _,(j.O h).aV V _ _⟩
 refine(Jp (x.ext j)).bK di i λc r e h _=>⟨c,rfl,λm=>y h (λl=>nb e m l.1),λm=>?_⟩;have q:=yb e m;refine(dk).bK h i λb2 L w H g=>⟨b2,rfl,λn=>y g (λl=>nb w n l.2),λn=>?_⟩;have o:=yb w n;refine(NL (x.ext (j.O g)) q o).aO ?_;rintro _ M ⟨cC,I,G,rfl,B,u⟩;have l:=g.O u;have K:=(KU q o).2.1.cC;refine⟨u.fq (λc e=>g.lt (i c e)),_,_,_,_,_,_,_,rfl,(KH B V).aO ?_⟩;rintro _ O ⟨D,rfl,s,v⟩;refine⟨v.fq (λc e=>l.lt (i c e)),_,_,_,_,rfl,?_⟩;intro P;rw[oR,ba ⟨q,o⟩];have A:b.size<=k.size:=V;generalize nD a dG=st at*;refine⟨D,rfl,?_,(j.O (l.O v)).aV A _ _⟩;have:=l.aP;rcases s.bq with t|t
 .subst t;exact⟨s.aS,bu rfl⟩
 .exact(s.congr (cg _ _ _ _ V)).da V
end
section
variable{m:E}{s:N}{l:ab}{h:ah}{w:Int}{a:Nat}
def ly(c:bd m s l)(n:l.length<=1000000000):sq 62 [s.v] m l:=by
 apply xH;have b:=c.aS;refine⟨λh=>?_,λh=>?_⟩
 .cases s with
  |nil=>simp at b;have:l=[]:=cr.1 b.symm;subst this;exact⟨.nil,rfl,jo.gD _ _ _ _,di⟩
  |mk a o e d=>simp at h
  |Dx a o sp=>simp at h
 .intro d;have a:=px d;have f:jo m d bE 1 (.mk m.size 0 0 0) []:=jo.bI (J.cZ m) bE 1 [] 0 bO;refine jo.fy (c:=[.i 0]) (h:=l.map Ce.i) f a (by simp[b]) (c.ext a).Eu fj λr o a e g i j k=>⟨r,rfl,sp a,e⟩
def Sf{a:List ae}{n e f:Nat}{b:ae}(d:s.len=n)(i:a.length=n)(o:∀c∈a,c.length=b.length)(k:jt m s.bq s.off a.flatten)(l:n*f<=140737488355328):
 (s.MV=true->∃r,N.v .nil=r.v/\jo m m e b.length r a.flatten/\J m m)/\(s.MV=false->let g:E:=m.push (.cells (de []) e);lS g e b f (.mk m.size 0 0 0) s λq c=>∃r,q.v=r.v/\jo m c e b.length r a.flatten/\J m c):=by
 refine⟨λh=>?_,λh=>?_⟩
 .cases s with
  |nil=>simp at d;have:a=[]:=cr.1 V;subst this;exact⟨.nil,rfl,jo.gD _ _ _ _,di⟩
  |mk c g p j=>simp at h
  |Dx c g sp=>simp at h
 .have c:J m (m.push (.cells (de []) e)):=(J.cZ m).cw _
  have j:jo m (m.push (.cells (de []) e)) e b.length (.mk m.size 0 0 0) []:=jo.bI (J.cZ m) e _ [] 0 bO
  refine jo.fy (c:=b) (h:=a.flatten) j c (by rw[eE o,i,d]) (c.kV k) (by simp only[N.lJ];rw[d,fB];exact l) λr v c g p q t u=>⟨r,rfl,sp c,g⟩
def wm(g:bd m s l)(b:Int):bJ dN 99 [s.v,vi b] m λv i=>∃r:Int,v=vi r/\J m i/\((r= -1/\b∉l)\/(b∈l/\r=tJ l b)):=by
 apply xJ;have j:=g.aS;refine ik (n:=l.length) (j▸g.kA) (λk i=>J m i/\b∉l.take k) ⟨di,bO⟩ ?_;rintro k u I μ t ⟨f,e⟩ p
 refine dit (λh=>?_) λh=>?_
 .let⟨x,d⟩:=dY l k;refine⟨V,V,x,by simpa using f.aR (g.D d),λc=>?_,λc=>p V _ ⟨f,?_⟩⟩
  .simp at c;subst c;refine⟨_,rfl,f,bG ⟨aZ d,?_⟩⟩;have:tJ l b=k:=by
    unfold tJ;rw[List.findIdx_eq (bA d)];refine⟨by have:=(ph.1 d).2;simp[this],λo q=>?_⟩;simp;intro a;apply e;rw[<-a];exact Hv.2 ⟨o,V,rfl⟩
   rw[this]
  .rw[bX d];simp at c;intro a;rcases bR.1 a with a|a
   .exact e a
   .simp at a;exact c a
 .rw[eW V]at e;exact⟨_,rfl,f,bu ⟨rfl,e⟩⟩
def lp(c:bd m s l)(n:Int):gK dN 59 [s.v,vi n] m (n∈l):=by
 apply vv;refine(wm c n).aO ?_;rintro _ f ⟨r,rfl,d,h⟩;refine⟨_,rfl,lg ?_ d⟩;simp only[bh];rcases h with⟨rfl,h⟩|⟨b,e⟩
 .exact⟨λa=>V,λa=>absurd a h⟩
 .exact⟨λ_=>b,λ_=>V⟩
def jX{t:N}{r:ab}(d:bd m s l)(i:bd m t r):gK dN 141 [s.v,t.v] m (l=r):=by
 apply xI;have j:=d.aS;have q:=i.aS;refine⟨λh=>fW (λe=>by subst e;simp at h;omega) di,λh=>?_⟩;simp at h;refine ik (n:=l.length) (j▸d.kA) (λk a=>J m a/\l.take k=r.take k) ⟨di,bO⟩ ?_;rintro k u I μ p ⟨b,g⟩ o
 refine⟨λh=>?_,λh=>pw (by simp at h;rwa[eW V,eW V]at g) b⟩;simp only[bh]at h;let⟨x,f⟩:=dY l k;let⟨y,c⟩:=dY r k;refine⟨V,V,x,by simpa using b.aR (d.D f),V,V,y,by simpa using b.aR (i.D c),λa=>fW (λe=>?_) b,λa=>o V _ ⟨b,?_⟩⟩
 .subst e;rw[f]at c;simp at c;simp at a;exact a c
 .rw[bX f,bX c,g];simp at a;rw[a]
def oE{a:N}(j:jF m a h)(t:w<=9223372036854775807):
 bJ dN 138 [a.v,vi w] m λv p=>∃(i:Int)(e:Bool),v=.tuple #[vi i,vb e]/\(e=true<->iH h w)/\(e=true->i=ix w)/\J m p:=by
 apply J7
 have k:=j.aS
 refine⟨λc=>?_,λc=>?_⟩
 .simp at c
  have l:eR (w -1000)=w -1000:=iC
  have o:(ix w:Int)=w -1000:=by unfold ix;omega
  rw[l]
  refine⟨λg=>?_,λg=>?_⟩
  .simp at g
   let⟨f,b⟩:=dY h ((w -1000).toNat)
   obtain⟨r,s,n,_⟩:=j.D b
   refine⟨V,V,f.ct,n,_,_,rfl,?_,λ_=>o.symm,di⟩
   simp only[bh]
   refine⟨λa=>⟨c,f,b,a⟩,λ⟨_,q,d,a⟩=>?_⟩
   unfold ix at d
   rw[b]at d;simp at d;subst d;exact a
  .simp at g
   refine⟨_,_,rfl,⟨sx,λ⟨_,f,b,_⟩=>?_⟩,sx,di⟩
   have:=bA b
   omega
 .simp at c
  exact⟨_,_,rfl,⟨sx,λk=>oh k.1⟩,sx,di⟩
def Pl{b:N}(f:aR m a 8=some b.v)(g:jF m b h)(i:w<=9223372036854775807):gK dN 86 [vp a 0,vi w] m (iH h w):=by
 apply yh (a,0);refine⟨b,f,(oE g i).aO ?_⟩;rintro _ k ⟨c,d,rfl,e,_,j⟩;exact⟨c,d,rfl,lg e j⟩
def Iv(e:bd m s l)(q:l.length<=100000000):sq 142 [s.v] m (nU l):=by
 apply CW;have p:=e.aS;refine gP (n:=l.length) V (λk s a=>J m a/\jo m a bE 1 s ((nU (l.take k)).map Ce.i)) ⟨di,by simpa[nU]using jo.gD m m bE 1⟩ ?_;rintro k s r I μ o ⟨b,a⟩ f
 refine dit (λh=>?_) λh=>?_
 .let⟨x,c⟩:=dY l k;refine⟨V,V,x,by simpa using b.aR (e.D c),λd=>?_,λg=>?_⟩
  .intro t;refine rR a b (by have:=rS (l.take k);simp at this;omega) λv u i j=>f V _ _ ⟨j,?_⟩
   rw[bX c,tc];have:nU [x]=[x]:=by simp at d;simp[nU,d]
   rw[this];exact i
  .refine f V _ _ ⟨b,?_⟩
   rw[bX c,tc];have:nU [x]=[]:=by simp at g;simp[nU];omega
   rw[this,fH];exact a
 .rw[eW V]at a;exact⟨s,rfl,a,b⟩
def Cm(g:bd m s l):gK dN 88 [s.v] m (DG l):=by
 apply Il;refine(ln g 139 #[] #[] cH (λx=>x≠0) (λx _ i d=>?_)).bZ λb j f d=>⟨b,rfl,lg ?_ d⟩
 .simp only[gY,fH];apply DZ;exact lg bO di
 .have e:(!b)=true<->¬(b=true):=bO;rw[e,f];unfold DG;constructor
  .intro h n c;exact gA λa=>h ⟨n,c,a⟩
  .rintro h ⟨n,c,a⟩;exact a (h n c)
def zY{ah T:N}{b:cV}(ac:iF m ah T b)(g1:aR m a 1=some T.v){x:Instr}(hc:Dy b x){g j:N}(w:bd m g x.aN)(aB:x.aN.length<=1000000)(ai:(x.op=16\/x.op=17)->1<=x.aN.length):
 bJ dN 85 [vp a 0,xv x g j] m λaq S=>∃s l,aq=.tuple #[s.v,l.v]/\bd S s (bY b x)/\bd S l (if x.op=9\/x.op=24 then fe b x 0 x.aN else[])/\J m S/\(s=.nil\/s.bq=g.bq\/m.size<=s.bq)/\(l=.nil\/m.size<=l.bq):=by
 apply wG (a,0)
 simp -zeta only[dU]
 intro c
 obtain⟨u,s1⟩:=pu c
 have P:∀o∈[m.size],o<c.size:=by simp[c]
 have aa:=w.aS
 have av:=w.lZ
 have M:bd c .nil []:=⟨rfl,bO,bO,bO⟩
 clear_value c
 refine⟨λe=>?_,λp=>⟨λe=>?_,λt=>⟨λe=>?_,λq=>?_⟩⟩⟩
 .simp only[eD,bP]at e
  refine⟨g,.nil,rfl,?_,by rw[aU V];exact M,u,bG (bu rfl),bu rfl⟩
  unfold bY;rw[ba V];exact w.ext u
 .simp only[eD,bP]at e
  simp only[cU,a8]at p
  refine⟨V,V,V,_,.nil,rfl,?_,by rw[aU V];exact M,u,bG (bu ?_),bu rfl⟩
  .unfold bY;rw[aU V,ba e]
   exact fU.Sj (w.ext u) (ai e)
  .cases g with
   |nil=>simp at aa;omega
   |Dx o d sp=>simp at aa;omega
   |mk o d l f=>rfl
 .simp only[eD,bP]at e
  simp only[cU,a8]at p t
  let⟨h0,aC,K⟩:=hc e
  have aA:=ac.cO.aS
  have az:=bA K
  have ap:∃(v:N->N->Int->E->Prop)(μ0:N->N->Int->E->Nat),v N.nil N.nil (0:Int) c/\(∀(aT:N)(cR:N)(i:Int)(d:E),v aT cR i d->∃k:Nat,i=k/\k<=x.aN.length/\J c d/\jo c d bE 1 aT ((lI b x k).map Ce.i)/\jo c d bE 1 cR ((fe b x 0 (x.aN.take k)).map Ce.i)/\(aT≠.nil->cR≠.nil->aT.bq≠cR.bq))/\
   (∀(aT cR:N)(k:Nat)(d:E),k<=x.aN.length->J c d->jo c d bE 1 aT ((lI b x k).map Ce.i)->jo c d bE 1 cR ((fe b x 0 (x.aN.take k)).map Ce.i)->(aT≠.nil->cR≠.nil->aT.bq≠cR.bq)->v aT cR k d)/\(∀g o i m,μ0 g o i m=((x.aN.length:Int) -i).toNat):=
   ⟨λaT cR i d=>∃k:Nat,i=k/\k<=x.aN.length/\J c d/\jo c d bE 1 aT ((lI b x k).map Ce.i)/\jo c d bE 1 cR ((fe b x 0 (x.aN.take k)).map Ce.i)/\(aT≠.nil->cR≠.nil->aT.bq≠cR.bq),λ_ _ i _=>((x.aN.length:Int) -i).toNat,
    ⟨0,rfl,jb _,di,by simpa[lI,iN]using jo.gD c c bE 1,by simpa[fe]using jo.gD c c bE 1,λh=>absurd rfl h⟩,λ_ _ _ _ h=>h,λaT cR k d f r y z A=>⟨k,rfl,f,r,y,z,A⟩,λ_ _ _ _=>rfl⟩
  let⟨v,μ0,aj,ao,ad,hμ⟩:=ap
  refine⟨v,μ0,aj,?_⟩
  intro aT cR i d hI
  obtain⟨k,rfl,hk,Z,o1,o2,I⟩:=ao aT cR i d hI
  have L:=u.O Z
  refine dit (λh=>?_) λh=>?_
  .let⟨y,Q⟩:=dY x.aN k
   obtain⟨a',l',c',au,am,aw,k0,k1,_⟩:=(ac.ext L).cO.D K
   have af:(x.aN.take k).length=k:=fj
   have ag:lI b x (k+1)=lI b x k++iN b x k [y]:=by
    unfold lI;rw[bX Q,rX,af,fB]
   have ae:fe b x 0 (x.aN.take (k+1))=fe b x 0 (x.aN.take k)++fe b x k [y]:=by
    rw[bX Q,kW,af,fB]
   have ax:(lI b x k).length<=k:=fA (xV _ _ _ _) fj
   have ay:(fe b x 0 (x.aN.take k)).length<=k:=by
    have:∀(l:ab)(j:Nat),(fe b x j l).length<=l.length:=by
     intro l;induction l with
     |nil=>intro j;exact bW
     |cons ar l R=>intro j;have:=R (j+1);simp only[fe];split<;>simp<;>omega
    have:=this (x.aN.take k) 0;omega
   have Y:eR ((k:Int)+1)=((k+1:Nat):Int):=nQ (n:=x.aN.length) V V
   refine⟨V,V,y,by simpa using L.aR (w.D Q),T,L.aR g1,h0,V,l',k1,(lp am _).bK Z P λo m3 hb F D=>⟨o,rfl,λal=>?_,λak=>?_⟩⟩
   .have z:=(Pv K k).2 (hb.1 al)
    intro r
    have s4:=pz r
    have O:=o1.ext F
    have an:cR.len=(fe b x 0 (x.aN.take k)).length:=by have:=o2.aS;simp at this;omega
    refine jo.fy (c:=[.i 0]) (h:=[.i y]) ((o2.ext F).ext (J.push _ _)) (D.cw _) rfl (dJ.push m3 _ _).kV fj λs m5 U C q3 q4 W X=>⟨J.wL (D.cw _) C P,?_⟩
    rw[Y]
    refine⟨ad _ _ _ _ V C ?_ ?_ ?_,by rw[hμ,hμ];omega⟩
    .rw[ag]
     have:iN b x k [y]=[]:=by simp only[iN];rw[ba z]
     rw[this,fH]
     rcases O.lt with e|e
     .subst e;exact⟨O.aS,bu rfl⟩
     .refine O.congr ?_
      rw[W _ (show _<r.size by omega) (λB=>?_),uR,aU V]
      by_cases A:aT=.nil
      .subst A
       rcases o2.bq with q|q
       .exact absurd q B
       .simp;omega
      .exact I A B
    .rw[ae]
     have:fe b x k [y]=[y]:=by simp only[fe];rw[ba z]
     rw[this];simpa using U
    .intro G H
     rcases X with⟨_,e⟩|⟨p,t,_⟩|e
     .exact absurd e H
     .rw[t];exact I G p
     .rw[e]
      rcases O.lt with f|f
      .exact absurd f G
      .show aT.bq≠r.size;omega
   .have z:¬js b x k=true:=λhh=>fb hb ak ((Pv K k).1 hh)
    intro r
    have s4:=pz r
    have O:=o2.ext F
    have an:aT.len=(lI b x k).length:=by have:=o1.aS;simp at this;omega
    refine jo.fy (c:=[.i 0]) (h:=[.i y]) ((o1.ext F).ext (J.push _ _)) (D.cw _) rfl (dJ.push m3 _ _).kV fj λs m5 U C q3 q4 W X=>⟨J.wL (D.cw _) C P,?_⟩
    rw[Y]
    refine⟨ad _ _ _ _ V C ?_ ?_ ?_,by rw[hμ,hμ];omega⟩
    .rw[ag]
     have:iN b x k [y]=[y]:=by simp only[iN];rw[aU z]
     rw[this];simpa using U
    .rw[ae]
     have:fe b x k [y]=[]:=by simp only[fe];rw[aU z]
     rw[this,fH]
     rcases O.lt with e|e
     .subst e;exact⟨O.aS,bu rfl⟩
     .refine O.congr ?_
      rw[W _ (show _<r.size by omega) (λB=>?_),uR,aU V]
      by_cases A:cR=.nil
      .subst A
       rcases o1.bq with q|q
       .exact absurd q B
       .simp;omega
      .exactλe5=>I B A e5.symm
    .intro G H
     rcases X with⟨_,e⟩|⟨p,t,_⟩|e
     .exact absurd e G
     .rw[t];exact I p H
     .rw[e]
      rcases O.lt with f|f
      .exact absurd f H
      .show r.size≠cR.bq;omega
  .have r:x.aN.take k=x.aN:=eW V
   rw[r]at o2
   unfold lI at o1
   rw[r]at o1
   have A:=xV b x x.aN 0
   have y:∀(l:ab)(j:Nat),(fe b x j l).length<=l.length:=by
    intro l;induction l with
    |nil=>intro j;exact bW
    |cons ar l R=>intro j;have:=R (j+1);simp only[fe];split<;>simp<;>omega
   have z:=y x.aN 0
   refine⟨aT,cR,rfl,?_,?_,L,?_,?_⟩
   .unfold bY;rw[aU V,aU V,ba e];exact bd.jM o1 V
   .rw[ba e];exact bd.jM o2 V
   .rcases o1.bq with f|f
    .exact bu f
    .exact bG (bG V)
   .rcases o2.bq with f|f
    .exact bu f
    .exact bG V
 .simp only[cU,a8]at p t q
  refine⟨.nil,.nil,rfl,?_,by rw[aU V];exact M,u,bu rfl,bu rfl⟩
  unfold bY;rw[aU V,aU V,aU V];exact M
end
section
variable{b:E}{i e:Nat}{d p g k h a j:N}{c:cV}{s:St}{l:ak}{f:bS}{x:Instr}
theorem Ly:∀(l:aD)(k v j:Int),zt (ND l k v) j=if j=k then v else zt l j
 |[],k,v,j=>by simp[ND,zt]
 |(a,b)::g,k,v,j=>by
  simp only[ND];split
  .grind [zt]
  .rename_i h;simp only[zt];split
   .grind
   .exact Ly g k v j
def Un(l:ab)(k:Nat)(a:Nat):kC (l.take k) a<=kC l a:=by
 have:kC l a=kC (l.take k) a+kC (l.drop k) a:=by rw[<-qB,jT]
 have:=mR (l.drop k) a;omega
def Ad{r:N}{h:ah}(S:aR b i 8=some r.v)(D:jF b r h){o:Nat->Int}(O:iW h o){c:dD}(hc:c∈h){f:N}(Q:bd b f c.bU)(au:h.length<=2000000000):
 gK dN 140 [vp i 0,.agg #[vi c.ct,vi c.jJ,f.v]] b (c.ct=1\/oA h c.bU):=by
 apply wJ (i,0)
 unfold rP
 simp -zeta only[dU]
 intro d
 obtain⟨H,s1⟩:=pu d
 have T:∀e∈[b.size],e<d.size:=by simp[s1]
 have aq:=(O.iu c hc).fl
 have ar:=Q.aS
 have av:=D.aS
 clear_value d
 refine⟨λu=>pw (bu cG) H,λu=>?_⟩
 simp only[a8]at u
 intro t
 have ab:=px t
 have ag:HL t d.size []:=⟨#[],0,by simp[t],rfl⟩
 clear_value t
 refine ik (n:=c.bU.length) V (λk g=>J d g/\∃l,HL g d.size l/\(∀a:Nat,zt l a=kC (c.bU.take k) a)/\∀w∈c.bU.take k,1000<=w->(bt h w).ct+kC (c.bU.take k) (ix w)<=999999) ⟨ab,[],ag,λa=>by simp[zt,kC],bO⟩ ?_
 rintro k m3 ao μ hk ⟨v,l,X,W,R⟩ Z
 have s:=H.O v
 refine dit (λh2=>?_) λh2=>?_
 .let⟨w,m⟩:=dY c.bU k
  have am:1000<=w->iH h w:=by grind [iW.pQ,aZ]
  have al:w<=9223372036854775807:=by
   rcases fP (1000<=w)with M|M
   .have:=bA (dH (am M)).1;unfold ix at this;omega
   .omega
  refine⟨V,V,w,by simpa using s.aR (Q.D m),r,s.aR S,(oE (jF.ext s D) al).bK v T ?_⟩
  rintro _ m4 ⟨a,e,rfl,B,ac,y⟩
  have p:=v.O y
  have af:d.size<m3.size:=by obtain⟨L,K,z,_⟩:=X;exact(gN.1 z).1
  have F:HL m4 d.size l:=by obtain⟨L,K,z,q⟩:=X;exact⟨L,K,by rw[y.bC _ af];exact z,q⟩
  have j:∀a:Nat,kC (c.bU.take (k+1)) a=kC (c.bU.take k) a+(if w=1000+(a:Int)then 1 else 0):=λa=>by
   rw[bX m,qB];simp[kC]
  refine⟨y,a,e,rfl,λP=>?_,λap=>?_⟩
  .have E:=B.1 P
   have A:=ac P
   subst A
   have an:=nC E.1
   have aA:=mR (c.bU.take k) (ix w)
   have az:=Bn (c.bU.take k) (ix w)
   have aw:(c.bU.take k).length<=3:=cG
   have e1:eR (zt l (ix w)+1)=kC (c.bU.take (k+1)) (ix w):=by
    grind [dt]
   refine⟨l,F,l,F,?_⟩
   rw[e1]
   intro m5 U aj ae
   have x:J d m5:=⟨by rw[aj];exact p.aP,λe B=>by rw[ae e V,p.bC e B]⟩
   have I:=H.O x
   let⟨C,aB⟩:=dH E
   obtain⟨f5,_,k0,_⟩:=(jF.ext I D).D C
   have ax:=bA C
   have ay:=(O.iu _ (aZ C)).hi
   have ad:zt (ND l (ix w) (kC (c.bU.take (k+1)) (ix w))) (ix w)=kC (c.bU.take (k+1)) (ix w):=by grind [Ly]
   have ai:=j (ix w)
   rw[ba an.symm]at ai
   have e2:eR ((bt h w).ct+kC (c.bU.take (k+1)) (ix w))=(bt h w).ct+kC (c.bU.take (k+1)) (ix w):=iC
   refine⟨J.wL p x T,r,I.aR S,V,V,_,sp k0,_,U,trivial,trivial,?_⟩
   rw[ad,e2]
   refine⟨λq=>fW (λg=>?_) I,λq=>Z V _ ⟨x,_,U,λa=>?_,λaa G Y=>?_⟩⟩
   .rcases g with g|g
    .exact u g
    .have:=g w (aZ m) E.1
     have:=Un c.bU (k+1) (ix w)
     simp at q;omega
   .rw[Ly]
    by_cases A:(a:Int)=ix w
    .grind [ix]
    .rw[aU A,W,j,aU V];omega
   .by_cases ak:aa=w
    .grind
    .rw[j,aU (λo=>ak (by rw[nC Y]at o;exact o.symm))]
     rw[bX m]at G
     grind
  .have g:w<1000:=by
    grind
   refine Z V _ ⟨p,l,F,λa=>by rw[W,j,aU V];omega,λaa G Y=>?_⟩
   rw[j,aU V]
   rw[bX m]at G
   grind
 .rw[eW V]at R
  exact pw (bG R) s
@[grind cases] structure FP (m:E) (fb fo:Nat) (f:bS) (r o h:N):Prop where
 g3:aR m fb (fo+3)=some r.v
 g4:aR m fb (fo+4)=some o.v
 g5:aR m fb (fo+5)=some h.v
 aT:bd m r f.aT
 bF:bd m o f.bF
 cQ:bd m h f.cQ
def FP.ext{b c:E}{fb e:Nat}{f:bS}{g k h:N}(F:FP b fb e f g k h)(a:J b c):FP c fb e f g k h:=⟨a.aR F.g3,a.aR F.g4,a.aR F.g5,F.aT.ext a,F.bF.ext a,F.cQ.ext a⟩
def Lr{fb:Nat}{cC K fr:N}(m:RV b i 3 d p cC K fr c s)(ag:aR b i 2=some (vi (cJ c)))(C:we c s l f x)(O:FP b fb e f g k h)(v:bd b a x.aN)(aA:x.op=11)(ah:s.aQ.length<=2000000000):
 gK dN 89 [vp i 0,vp fb e,xv x a j] b (tz c s.aQ (D f.aT (D x.aN 0))):=by
 apply wI (i,0) (fb,e)
 simp -zeta only[dU]
 intro L
 obtain⟨r,s1⟩:=pu L
 clear_value L
 have hl:∀A∈[b.size],A<L.size:=by simp[s1]
 have ap:=v.aS
 have aD:=O.aT.aS
 have h2:=C.oC.2.2.1 V
 have q:0<=D x.aN 0/\D x.aN 0<f.aT.length:=C.arg _ (gS V V)
 have am:=C.F.tV q.1 q.2 C.QV
 have P:=O.ext r
 have T:=C.ok.aQ
 have X:=C.ok.gW
 refine⟨K,r.aR m.wi,g,P.g3,V,V,_,(v.ext r).um V V,q.1,V,_,P.aT.um q.1 q.2,?_⟩
 generalize D f.aT (D x.aN 0)=w at*
 refine(oE (jF.ext r m.aQ) am.2).bK di hl ?_
 rintro _ Y ⟨aa,A,rfl,U,ad,E⟩
 have z:=r.O E
 refine⟨E,aa,A,rfl,λaf=>fW (λn=>nb U af n.1) z,λae=>?_⟩
 have aj:=yb U ae
 have v:=ad cG
 subst v
 let⟨y,ak⟩:=dH aj
 have S:=T.iu _ (aZ y)
 have aF:=(S.yH ak).2
 have az:=bA y
 have ax:=m.aQ.aS
 let⟨B,W,k0,k1,k2⟩:=(jF.ext z m.aQ).D y
 refine⟨K,z.aR m.wi,V,V,_,sp k0,_,sp k1,B,sp k2,?_⟩
 intro m3 u
 have Q:J Y u:=by grind [J.cZ,J.cw,J.aV]
 have s4:u.size=Y.size+1:=by grind [bD]
 clear_value u
 have o:=z.O Q
 have ao:(gJ c.bQ).length<=12:=by
  have:=tI X.kQ.dh c.bQ.length;grind [qu]
 have au:(cJ c)=((gJ c.bQ).length:Int):=rfl
 have aC:=m.gW.cO.aS
 have aB:=X.kQ.aS
 have e1:eR ((bt s.aQ w).jJ -cJ c)=(bt s.aQ w).jJ -cJ c:=by grind [dt]
 refine⟨cJ c,o.aR ag,?_⟩
 rw[e1]
 refine⟨λF=>fW (λn=>by have:=n.2.1;simp at F;omega) o,λF=>⟨p,o.aR m.cO,λG=>fW (λn=>by have:=n.2.2.1;simp at G;omega) o,λG=>?_⟩⟩
 simp at F G
 let⟨an,hq⟩:=dY c.cO (((bt s.aQ w).jJ -cJ c).toNat)
 have al:dy c ((bt s.aQ w).jJ -cJ c)=an:=by grind [dy]
 let⟨Z,l',c',ab,ai,ar,j0,j1,j2,j3,j4⟩:=(m.gW.ext o).cO.D hq
 have aq:=ab.aS
 have ay:=ai.aS
 have aw:=W.aS
 have av:=S.fl
 refine⟨p,o.aR m.cO,V,V,Z,j0,l',j1,_,j2,_,j3,c',j4,?_⟩
 intro m5 M
 have R:J u M:=by grind [J.cZ,J.cw,J.aV]
 have s6:M.size=u.size+1:=by grind [bD]
 clear_value M
 have t:=o.O R
 have e3:eR ((B.len:Int)+1)=(B.len:Int)+1:=by grind [dt]
 rw[e3]
 unfold tz
 rw[al]
 have aE:=E.aP
 refine⟨λH=>⟨λI=>?_,λI=>fW (λn=>by have:=n.2.2.2.1;simp at I;omega) t⟩,λH=>fW (λn=>by have:=n.2.2.2.2.1;simp at H;omega) t⟩
 simp at H I
 refine(Ad (t.aR m.wi) (jF.ext t m.aQ) T (aZ y) (W.ext (Q.O R)) ah).bK di cG λb2 m7 ac n _=>⟨b2,rfl,lg (ac.trans ?_) (t.O n)⟩
 grind
def Iu{fb:Nat}{cC Z fr:N}(u:RV b i 3 d p cC Z fr c s)(C:we c s l f x)(F:FP b fb e f g k h)(H:bd b a x.aN)(aQ:x.op=14\/x.op=19\/x.op=21\/x.op=16\/x.op=17)(aw:s.aQ.length<=2000000000):
 gK dN 90 [vp i 0,vp fb e,xv x a j] b ((x.op=14->iH s.aQ (D f.aT (D x.aN 0))/\(bt s.aQ (D f.aT (D x.aN 0))).ct<999999)/\(x.op=19->iH s.aQ (D f.aT (D x.aN 0))/\x.cE<(bt s.aQ (D f.aT (D x.aN 0))).bU.length)/\
  (x.op=21->iH s.aQ (D f.aT (D x.aN 0))/\(bt s.aQ (D f.aT (D x.aN 0))).jJ∈cT c.bQ x.cE)/\((x.op=16\/x.op=17)->FQ s.aQ f x)):=by
 apply vg (i,0) (fb,e)
 simp -zeta only[dU]
 intro m1
 obtain⟨I,s1⟩:=pu m1
 clear_value m1
 have hl:∀y∈[b.size],y<m1.size:=by simp[s1]
 have aH:=H.aS
 have aG:=H.lZ
 have aT:=F.aT.aS
 have aL:=F.cQ.aS
 have h4:=C.oC
 have aO:=C.SD
 have ax:1<=x.aN.length:=V
 have aD:=h4.1
 clear h4
 have z:0<=D x.aN 0/\D x.aN 0<f.aT.length:=C.arg _ (gS V V)
 have ay:=C.F.tV z.1 z.2 C.QV
 have F1:=F.ext I
 have hI:=C.ok.aQ
 have ap:FQ s.aQ f x<->(iH s.aQ (D f.aT (D x.aN 0))/\nU (bt s.aQ (D f.aT (D x.aN 0))).bU=dO f (x.aN.drop 1)/\((bt s.aQ (D f.aT (D x.aN 0))).ct=1\/oA s.aQ (bt s.aQ (D f.aT (D x.aN 0))).bU)/\(x.op=17->D f.cQ (D x.aN 0)=0)):=MK
 rw[ap]
 refine⟨Z,I.aR u.wi,g,F1.g3,V,V,_,(H.ext I).um V V,z.1,V,_,F1.aT.um z.1 z.2,?_⟩
 generalize D f.aT (D x.aN 0)=w at*
 refine(oE (jF.ext I u.aQ) ay.2).bK di hl ?_
 rintro _ E ⟨ah,y,rfl,W,au,Q⟩
 have O:=I.O Q
 refine⟨Q,ah,y,rfl,λaI=>fW (λU=>?_) O,λav=>?_⟩
 .grind
 have ac:=yb W av
 have aq:=au cG
 subst aq
 let⟨M,aS⟩:=dH ac
 have ab:=hI.iu _ (aZ M)
 have aP:=bA M
 have aM:=u.aQ.aS
 let⟨P,Y,k0,k1,k2⟩:=(jF.ext O u.aQ).D M
 refine⟨Z,O.aR u.wi,V,V,_,sp k0,_,sp k1,P,sp k2,?_⟩
 intro m3 v
 have R:J E v:=by grind [J.cZ,J.cw,J.aV]
 have s4:v.size=E.size+1:=by grind [bD]
 have kB:aR v E.size 1=some (vi (bt s.aQ w).jJ):=(dJ.aV (m:=m3) (o:=0) (r:=[.i (bt s.aQ w).ct,.i (bt s.aQ w).jJ,.s P]) (dJ.push E _ _)).dz 1
 clear_value v
 have t:=O.O R
 have aU:=Q.aP
 have B:∀y∈[E.size,b.size],y<v.size:=cG
 have aK:=Y.aS
 refine⟨λA=>?_,λai=>⟨λA=>?_,λak=>⟨λA=>?_,λal=>?_⟩⟩⟩
 .simp at A
  refine lg ?_ t
  simp
  exact⟨λG=>⟨λ_=>⟨ac,G⟩,λq=>V,λq=>V,λq=>V⟩,λG=>(G.1 A).2⟩
 .simp at A
  refine lg ?_ t
  simp
  grind
 .simp at A
  refine⟨d,t.aR u.bQ,(xl (u.gW.ext t).bQ C.ok.gW.kQ.dh _).bK di B ?_⟩
  rintro _ m5 ⟨K,rfl,L,q⟩
  refine⟨q,K,rfl,q.db kB,(lp L _).bK q B λb2 m6 X T S=>⟨b2,rfl,lg (X.trans ?_) (t.O S)⟩⟩
  grind
 .simp at ai ak al
  have aj:x.op=16\/x.op=17:=V
  have e1:(Int.toNat (1:Int))=1:=rfl
  have e2:(Int.toNat (a.len:Int))=a.len:=V
  rw[e1,e2]
  have ad:=aav (H.ext t) ax
  have aN:=ad.aS
  have aJ:(x.aN.drop 1).length<=4:=cG
  refine⟨V,V,V,?_⟩
  refine gP (n:=(x.aN.drop 1).length) V (λaa s' K=>J v K/\jo v K bE 1 s' ((dO f ((x.aN.drop 1).take aa)).map Ce.i)) ⟨di,by simpa[dO]using jo.gD v v bE 1⟩ ?_
  rintro aa s' m5 aC μ hk ⟨q,o5⟩ aA
  have az:=t.O q
  refine dit (λG=>?_) λG=>?_
  .let⟨ae,K⟩:=dY (x.aN.drop 1) aa
   have L:=C.arg ae (uj (aZ K))
   have F5:=F.ext az
   refine⟨V,V,ae,by simpa using(ad.ext q).D K,g,F5.g3,L.1,V,_,F5.aT.um L.1 L.2,?_⟩
   intro m6
   refine rR o5 q (by simp[dO];omega) λaf m7 q1 q2=>⟨J.wL (q.cw _) q2 B,aA V _ _ ⟨q2,?_⟩⟩
   rw[bX K]
   simpa[dO]using q1
  .rw[eW V]at o5
   have i5:bd m5 s' (dO f (x.aN.drop 1)):=by grind [bd.jM,dO]
   refine(Iv (Y.ext (R.O q)) (oh ab.fl)).bK (Xm (rS (bt s.aQ w).bU) ab.fl) (λy W=>q.lt (B y W)) λps m6 o6 i6 T=>⟨ps,rfl,?_⟩
   have S:=q.O T
   refine(jX i6 (i5.ext T)).bK S B λb2 m7 X aE L=>⟨b2,rfl,λh8=>fW (λU=>nb X h8 (U.2.2.2 aj).2.1) (t.O L),λh8=>?_⟩
   have K:=t.O L
   have ag:bJ dN 140 [vp i 0,.agg #[vi (bt s.aQ w).ct,vi (bt s.aQ w).jJ,P.v]] m7 λaB ae=>gL [E.size,b.size] m7 ae/\∃af:Bool,aB=vb af/\((af=true<->((bt s.aQ w).ct=1\/oA s.aQ (bt s.aQ w).bU))/\J b ae):=
    (Ad (K.aR u.wi) (jF.ext K u.aQ) hI (aZ M) (Y.ext (R.O L)) aw).bK L B λb3 m8 ar aF ao=>⟨b3,rfl,ar,t.O ao⟩
   have F7:=F.ext K
   have am:D x.aN 0<f.cQ.length:=V
   refine⟨λan=>⟨h,F7.g5,V,V,_,(H.ext K).um V V,z.1,V,_,F7.cQ.um z.1 am,λh9=>fW (λU=>?_) K,λh9=>ag.aO ?_⟩,λan=>ag.aO ?_⟩
   .grind
   .grind
   grind
end
section
variable{b:E}{c:Nat}{a:bS}{d e h:N}
def zc(aT:ab):∀(b a bF:ab),bV aT bF (b++a)=bV aT (bV aT bF b) a
 |[],a,bF=>rfl
 |y::b,a,bF=>by simp only[eT,bV,zc aT b a]
def Q2{f fb:Nat}(i:aR b f 0=some (vp fb c))(F:FP b fb c a d e h){x:Int}(g:0<=x/\x<a.aT.length):gK dN 87 [vi x,vp f 0] b (1000<=D a.aT x):=by
 apply zn (f,0);have j:=F.aT.aS;exact⟨(fb,c),i,d,F.g3,g.1,V,_,F.aT.um g.1 g.2,lg bO di⟩
def Ui{mb fb:Nat}{aL a9 cC u fr:N}{g:cV}{P:St}(R:RV b mb 3 aL a9 cC u fr g P)(aV:aR b mb 2=some (vi (cJ g))){fs:ak}{x:Instr}(C:we g P fs a x){am a5:N}(T:FP b fb c a d e h)(ha:bd b am x.aN)(aI:P.aQ.length<=2000000000):
 gK dN 50 [vp mb 0,vp fb c,xv x am a5] b (iR g P a x (bV a.aT a.bF (bY g x))):=by
 apply Bh (mb,0) (fb,c)
 simp -zeta only[dU]
 intro m1 M
 have z:J b M:=((J.cZ b).cw _).cw _
 have s1:=pz m1
 have s2:M.size=b.size+2:=by simp[M,s1]
 have Q:∀j∈[m1.size,b.size],j<M.size:=fj
 have kP:aR M b.size 0=some (vp fb c):=((dJ.push b [.p fb c] _).ext (J.push m1 _)).dz 0
 clear_value M
 have be:=ha.aS
 have bp:=T.aT.aS
 have bg:=T.cQ.aS
 have bk:=C.SD
 have hd:=C.br
 have a1:=C.opc
 refine⟨e,z.aR T.g4,(ly (T.bF.ext z) V).bK V Q λB m3 oq iq aw=>⟨B,rfl,?_⟩⟩
 have ap:=iq.aS
 have az:=z.O aw
 refine(zY (R.gW.ext az) (az.aR R.cO) C.jr (ha.ext az) (oh C.oC.1) C.oC.2.2.2.1).bK aw Q ?_
 rintro _ W ⟨rs,ls,rfl,ar,aA,ax,aK,aJ⟩
 have aP:=aw.O ax
 have a7:=oq.ext ax
 refine⟨ax,rs,ls,rfl,?_⟩
 have br:=MF g x
 have bc:=C.oC.1
 have bq:=ar.aS
 have aS:=C.Ox
 have a2:∀ad∈a.bF,0<=ad:=λad U=>(C.SL ad U).1
 have bn:M.size<=B.bq:=by
  rcases oq.bq with k|k
  .subst k;simp at ap;omega
  .exact k
 have bo:B.bq<m3.size:=by
  rcases oq.lt with k|k
  .subst k;simp at ap;omega
  .exact k
 have ay:=C.arg
 have kr:∀{v:E},(∀j,j<W.size->j≠B.bq->v[j]? =W[j]?)->bd v rs (bY g x):=λhk=>jV ar λH=>hk _ (lG ar H) λk=>by
  have aT:x.aN≠[]:=λS=>by
   let⟨y,s⟩:=aad _ H;have:=qW s;rw[S]at this;simp at this
  rcases aK with X|X|X
  .subst X;have:=ar.aS;simp at this;exact H (cr.1 this.symm)
  .rw[X]at k;have:=lG ha aT;omega
  .omega
 have kl:∀{v:E},(∀j,j<W.size->j≠B.bq->v[j]? =W[j]?)->bd v ls (if x.op=9\/x.op=24 then fe g x 0 x.aN else[]):=λhk=>jV aA λH=>hk _ (lG aA H) λk=>by
  rcases aJ with X|X
  .subst X;have:=aA.aS;simp at this;exact H (cr.1 this.symm)
  .omega
 refine ik (n:=(bY g x).length) V (λp v=>J M v/\(∀j,j<W.size->j≠B.bq->v[j]? =W[j]?)/\jo M v bE 1 B ((bV a.aT a.bF ((bY g x).take p)).map Ce.i)/\∀ad∈bV a.aT a.bF ((bY g x).take p),0<=ad) ⟨aP,λ_ _ _=>rfl,a7,a2⟩ ?_
 rintro p m5 a_ μ hk ⟨ae,ai,au,L⟩ aD
 have F5:=T.ext (z.O ae)
 have aX:=mh a.aT ((bY g x).take p) a.bF
 have aq:bd m5 B (bV a.aT a.bF ((bY g x).take p)):=bd.jM au V
 refine dit (λh6=>?_) λh6=>?_
 .let⟨y,s⟩:=dY (bY g x) p
  have q:=aS y (aZ s)
  have F:bV a.aT a.bF ((bY g x).take (p+1))=if 1000<=D a.aT y then gT (bV a.aT a.bF ((bY g x).take p)) y (D (bV a.aT a.bF ((bY g x).take p)) y -1)else bV a.aT a.bF ((bY g x).take p):=by
   rw[bX s,zc];rfl
  have I:y<(bV a.aT a.bF ((bY g x).take p)).length:=V
  have aE:=L _ (gS q.1 I)
  have aF:D (bV a.aT a.bF ((bY g x).take p)) y<=999999:=by
   let⟨q',O,ah⟩:=oa ((bY g x).take p) a.bF y.toNat _ (jG q.1 I);have:=(C.SL q' (aZ O)).2;omega
  refine⟨V,V,y,by simpa using(kr ai).D s,d,F5.g3,q.1,V,_,F5.aT.um q.1 q.2,λA=>?_,λA=>aD V _ ⟨ae,ai,by rw[F,aU (sp A)];exact au,by rw[F,aU (sp A)];exact L⟩⟩
  simp at A
  rw[ba A]at F
  refine⟨q.1,V,_,aq.um q.1 I,q.1,V,?_⟩
  have e1:eR (D (bV a.aT a.bF ((bY g x).take p)) y -1)=D (bV a.aT a.bF ((bY g x).take p)) y -1:=iC
  rw[e1]
  rcases au.D with av|⟨Y,aj,tail,z1,z2,z3,z4,z5⟩
  .rw[av]at ap;simp at ap;omega
  .have aM:B.off=0:=by rw[z1];rfl
   have aa:B.bq=Y:=by rw[z1];rfl
   have ag:B.off+y.toNat*1=y.toNat:=V
   rw[ag,aa]
   have ao:y.toNat<((bV a.aT a.bF ((bY g x).take p)).map Ce.i).length:=fj
   refine⟨z3.iQ (by simp only[dj];omega),?_⟩
   intro m6
   have G:J M m6:=ae.aV V _ _
   have al:∀j,j<W.size->j≠B.bq->m6[j]? =W[j]? :=λj t H=>by rw[cg _ _ _ _ V];exact ai j t H
   have o6:jo M m6 bE 1 B ((bV a.aT a.bF ((bY g x).take (p+1))).map Ce.i):=by
    rw[F];refine⟨by rw[jq,jC,<-jq (f:=Ce.i)];exact au.aS,bG ⟨Y,aj,tail,z1,z2,?_,?_,z5⟩⟩
    .have:=dJ.aV (m:=m5) (o:=y.toNat) (r:=[.i (D (bV a.aT a.bF ((bY g x).take p)) y -1)]) z3;have e6:jh ((bV a.aT a.bF ((bY g x).take p)).map Ce.i++tail) y.toNat [.i (D (bV a.aT a.bF ((bY g x).take p)) y -1)]=(gT (bV a.aT a.bF ((bY g x).take p)) y (D (bV a.aT a.bF ((bY g x).take p)) y -1)).map Ce.i++tail:=by
      simp only[jh,gT,xZ];rw[QJ _ _ ao]
     rw[e6]at this;exact this
    .simp only[dj,jq,jC]at z4⊢;exact z4
   have aH:=mh a.aT ((bY g x).take (p+1)) a.bF
   have aC:bd m6 B (bV a.aT a.bF ((bY g x).take (p+1))):=bd.jM o6 V
   have Z:D (bV a.aT a.bF ((bY g x).take (p+1))) y=D (bV a.aT a.bF ((bY g x).take p)) y -1:=by rw[F,mO q.1 I y q.1,ba rfl]
   have af:=aC.um (i:=y) q.1 V
   rw[Z,ag,aa]at af
   refine⟨J.wL ae G Q,q.1,V,_,af,λh8=>fW (λw=>?_) (z.O G),λh8=>aD V _ ⟨G,al,o6,λad U=>?_⟩⟩
   .simp at h8
    have ac:bV a.aT a.bF (bY g x)=bV a.aT (bV a.aT a.bF ((bY g x).take (p+1))) ((bY g x).drop (p+1)):=by rw[<-zc,jT]
    have an:y<(bV a.aT a.bF (bY g x)).length:=by rw[mh];omega
    have K:=jG (l:=bV a.aT a.bF (bY g x)) q.1 an
    have aG:=w.nn _ (aZ K)
    rw[ac]at K
    let⟨q',O,ah⟩:=oa _ _ _ _ K
    have aB:=OQ O
    rw[Z]at aB
    rw[<-ac]at ah
    omega
   .rw[F]at U
    rcases tQ U with U|U
    .simp at h8;omega
    .exact L ad U
 .have a3:(bY g x).take p=bY g x:=eW V
  rw[a3]at aq L aX
  have aB:=kl ai
  generalize bm:bV a.aT a.bF (bY g x)=bF at*
  have a0:=aB.aS
  refine⟨λv=>J m5 v/\(kM x.op->D bF x.br<=0),?_,?_⟩
  .refine(qA _ _ ⟨V,V⟩).bK ae Q λj m6 t af G=>⟨j,rfl,λI=>⟨hd.1,V,_,(aq.ext af).um hd.1 V,λA=>fW (λw=>?_) (z.O G),λA=>⟨af,λ_=>by simpa using A⟩⟩,λF=>⟨af,λK=>absurd K (Go.Vc.fb t F)⟩⟩
   have:=w.br (t.1 I);simp at A;omega
  .rintro m6 ⟨af,aa⟩
   have a6:∀(al:ab)(jj:Nat)(y:Int),y∈fe g x jj al->y∈al:=by
    intro al;induction al with
    |nil=>intro jj y h;simp[fe]at h
    |cons F al A=>
     intro jj y h;simp only[fe]at h;split at h
     .rcases aY.1 h with rfl|h
      .exact cK
      .exact aW _ (A _ _ h)
     .exact aW _ (A _ _ h)
   generalize ao:(if x.op=9\/x.op=24 then fe g x 0 x.aN else[])=LL at*
   have aQ:∀y∈LL,0<=y/\y<a.aT.length:=λy s=>by
    rw[<-ao]at s;split at s
    .exact ay y (a6 _ _ _ s)
    .simp at s
   refine ik (n:=LL.length) (a0▸aB.kA) (λp v=>J m5 v/\∀y∈LL.take p,1000<=D a.aT y->iH P.aQ (D a.aT y)) ⟨af,bO⟩ ?_
   rintro k2 m7 I2 μ2 bj ⟨ag,aj⟩ aC
   have Z:=ae.O ag
   have A:=z.O Z
   have I:=T.ext A
   refine dit (λh8=>?_) λh8=>?_
   .let⟨y,s⟩:=dY LL k2
    have q:=aQ y (aZ s)
    refine⟨V,V,y,by simpa using(aB.ext ag).D s,d,I.g3,q.1,V,_,I.aT.um q.1 q.2,λG=>?_,λG=>aC V _ ⟨ag,eC s aj λu=>by simp at G;omega⟩⟩
    simp at G
    refine(Pl (A.aR R.wi) (jF.ext A R.aQ) (C.F.tV q.1 q.2 C.QV).2).bK Z Q λj m8 t ah K=>⟨j,rfl,λF=>fW (λw=>?_) (z.O K),λF=>aC V _ ⟨ag.O ah,eC s aj λ_=>yb t F⟩⟩
    have O:=aZ s
    rw[<-ao]at O
    split at O
    .rename_i e9;exact nb t F (w.cR e9 y O G)
    .simp at O
   .rw[eW V]at aj
    have ac:(x.op=9\/x.op=24)->tx g P.aQ a x:=λe9=>by rw[ba e9]at ao;rw[<-ao]at aj;exact aj
    have a4:=aq.ext ag
    have hV:=R.ext A
    have aE:1<=x.aN.length->0<=D x.aN 0/\D x.aN 0<a.aT.length:=λY=>ay _ (gS V V)
    have ga:∀{v},J b v->1<=x.aN.length->aR v am.bq (am.off+Int.toNat (0:Int)*1)=some (vi (D x.aN 0)):=λhx Y=>(ha.ext hx).um V V
    clear aD aC ai kr kl a1 aK aJ
    refine⟨λk=>?_,λe1=>?_⟩
    .simp only[eD,bP]at k
     refine(ln (ha.ext A) 87 #[] #[vp b.size 0] cH (λy=>1000<=D a.aT y) (λy s v an=>?_)).bK Z (λj t=>Q j (by simp at t;simp[t])) λj m8 t ah K=>⟨j,rfl,lg ?_ (z.O K)⟩
     .simpa using Q2 (an.aR (Z.aR kP)) (I.ext an) (ay y s)
     .have av:(!j)=true<->¬(j=true):=bO
      rw[av,t]
      constructor
      .intro aF
       have u:∀y∈x.aN,D a.aT y<1000:=λy s=>by
        rcases fP (1000<=D a.aT y)with Y|Y
        .exact absurd ⟨y,s,Y⟩ aF
        .omega
       have O:x.op≠6/\x.op≠24/\x.op≠23/\x.op≠11/\x.op≠14/\x.op≠15/\x.op≠16/\x.op≠17/\x.op≠19/\x.op≠21:=by rcases k with k|k|k|k|k|k<;>rw[k]<;>decide
       exact⟨L,aa,λ_=>u,λq=>absurd q O.1,ac,λq=>q.elim (λh=>absurd h O.2.1) (λh=>absurd h O.2.2.1),λq=>absurd q O.2.2.1,λq=>absurd q O.2.2.2.1,λq=>absurd q O.2.2.2.2.1,λq=>absurd q O.2.2.2.2.2.1,λq=>q.elim (λh=>absurd h O.2.2.2.2.2.2.1) (λh=>absurd h O.2.2.2.2.2.2.2.1),λq=>absurd q O.2.2.2.2.2.2.2.2.1,λq=>absurd q O.2.2.2.2.2.2.2.2.2⟩
      .rintro w ⟨y,s,Y⟩
       have:=w.nL V y s;omega
    simp only[cU,a8]at e1
    refine⟨λk=>?_,λe6=>?_⟩
    .simp only[bP]at k
     have bi:=C.oC.2.2.2.2.1 k
     have j7:JH P.aQ a x->iR g P a x bF:=λu=>by
      refine⟨L,aa,?_,?_,ac,?_,?_,?_,?_,?_,?_,?_,?_⟩<;>intro q<;>first|(exfalso;omega)|exact u
     refine⟨λG=>?_,λG=>pw (j7 λH=>absurd (sp G) H) A⟩
     simp at G
     have aG:eR (x.cY -1)=x.cY -1:=iC
     rw[aG]
     have O:0<=x.cY -1/\x.cY -1<a.cQ.length:=V
     refine⟨h,I.g5,V,V,_,I.cQ.um O.1 O.2,λF=>?_,λF=>pw (j7 λ_ H=>absurd (sp F) H) A⟩
     simp at F
     obtain⟨U,dd,av,_⟩:=C.Ps _ (gS O.1 O.2) F
     have bl:=bA av
     have aN:ix (D a.cQ (x.cY -1))=(D a.cQ (x.cY -1) -1000).toNat:=rfl
     have aH:eR (D a.cQ (x.cY -1) -1000)=D a.cQ (x.cY -1) -1000:=iC
     have bf:=R.aQ.aS
     let⟨f9,aM,k0,k1,aO⟩:=(jF.ext A R.aQ).D av
     have bb:=aM.aS
     have aF:bt P.aQ (D a.cQ (x.cY -1))=dd:=by simp[bt,av]
     refine⟨u,hV.wi,h,I.g5,V,V,_,I.cQ.um O.1 O.2,?_⟩
     rw[aH,<-aN]
     refine⟨V,V,f9,aO,lg ?_ A⟩
     simp only[bP]
     refine⟨λan=>j7 λ_ _=>by rw[aF];omega,λw=>?_⟩
     have:=w.jB k G F
     rw[aF]at this;omega
    simp only[a8]at e6
    refine⟨λk=>?_,λaN=>?_⟩
    .simp only[eD,bP]at k
     refine(Cm a4).bK Z Q λj m8 t ah K=>⟨j,rfl,λG=>fW (λw=>nb t G (w.mF k).1) (z.O K),λG=>?_⟩
     have F8:=T.ext (z.O K)
     refine⟨h,F8.g5,(Cm F8.cQ).bK K Q λb2 m9 aH bb aG=>⟨b2,rfl,λF=>fW (λw=>nb aH F (w.mF k).2) (z.O aG),λF=>?_⟩⟩
     have O:=z.O aG
     have F9:=T.ext O
     have j7:(x.op=23->1<P.bn.length\/D a.aT (D x.aN 0)<1000)->iR g P a x bF:=λu=>by
      refine⟨L,aa,?_,?_,ac,?_,?_,?_,?_,?_,?_,?_,?_⟩<;>intro q<;>first|exact u q|(exfalso;omega)|exact⟨(yb t G),(yb aH F)⟩
     have bf:=R.bn.aS
     refine⟨λan=>pw (j7 λq=>by simp at an;omega) O,λan=>⟨fr,O.aR R.Su,λav=>pw (j7 λ_=>bu (by simp at av;omega)) O,λav=>?_⟩⟩
     simp at an av
     have aM:x.op=23:=V
     have Y:=C.oC.2.1 V
     have S:=aE V
     refine⟨d,F9.g3,V,V,_,ga O V,S.1,V,_,F9.aT.um S.1 S.2,lg ?_ O⟩
     simp
     refine⟨λaO=>j7 λ_=>bG aO,λw=>?_⟩
     rcases w.pU aM with aF|aF
     .omega
     .exact aF
    simp only[cU,a8]at aN
    refine⟨λk=>?_,λw=>?_⟩
    .simp only[bP]at k
     refine(Lr hV (A.aR aV) C I (ha.ext A) k aI).bK Z Q λj m8 t ah K=>⟨j,rfl,lg (t.trans ?_) (z.O K)⟩
     refine⟨λu=>?_,λh=>h.apply k⟩
     refine⟨L,aa,?_,?_,ac,?_,?_,?_,?_,?_,?_,?_,?_⟩<;>intro q<;>first|(exfalso;omega)|exact u
    simp only[a8]at w
    refine⟨λk=>?_,λG=>?_⟩
    .simp only[bP]at k
     have Y:=C.oC.2.1 V
     have S:=aE V
     refine⟨d,I.g3,V,V,_,ga A V,S.1,V,_,I.aT.um S.1 S.2,lg ?_ A⟩
     simp only[bh]
     refine⟨λu=>?_,λh=>h.uD k⟩
     refine⟨L,aa,?_,?_,ac,?_,?_,?_,?_,?_,?_,?_,?_⟩<;>intro q<;>first|(exfalso;omega)|exact u
    simp only[a8]at G
    refine⟨λk=>?_,λF=>?_⟩
    .simp only[eD,bP]at k
     refine(Iu hV C I (ha.ext A) V aI).bK Z Q λj m8 t ah K=>⟨j,rfl,lg (t.trans ?_) (z.O K)⟩
     refine⟨λu=>?_,λh=>⟨h.WU,h.pL,h.sM,h.Em⟩⟩
     refine⟨L,aa,?_,?_,ac,?_,?_,?_,u.1,?_,u.2.2.2,u.2.1,u.2.2.1⟩<;>intro q<;>exfalso<;>omega
    .simp only[cU,a8]at F
     refine pw ?_ A
     refine⟨L,aa,?_,?_,ac,?_,?_,?_,?_,?_,?_,?_,?_⟩<;>intro q<;>exfalso<;>omega
end
section
variable{d c:Nat}{b:ag}{a:E}{h:ah}
def qy(w:Int)(a:E):Gg dN 98 [vi w] a (vi (gE w)):=by
 apply Af;unfold gE;exact⟨λh=>by simp at h;rw[ba h];exact⟨rfl,di⟩,λh=>by simp at h;rw[aU V];exact⟨rfl,di⟩⟩
def yM{e:N}(s:gF d b a e h)(B:∀f,a.size<=f->b f=0)(kb:dJ a c gU [.s e])(D:b c=5)(I:h.length<=2000000000):
 bJ dN 145 [vp c 0] a λ_ i=>gF d b i (e.cut 0 (lB h h.length) 3) (pd h)/\dJ i c gU [.s (e.cut 0 (lB h h.length) 3)]/\HC b a b i:=by
 apply Ea (c,0)
 have H:=s.aS
 have t:=s.kG V
 have F:=t.lZ
 have l:aR a c 0=some e.v:=kb.dz 0
 refine⟨e,l,λp i=>i=a/\∃n:Nat,p=n/\n<=h.length/\lB h n=lB h h.length,λp _=>p.toNat,⟨rfl,h.length,V,bW,rfl⟩,?_⟩
 rintro p f ⟨rfl,n,rfl,C,u⟩
 have x:Int.toNat (0:Int)=0:=rfl
 have en:Int.toNat (n:Int)=n:=V
 have j7:lB h n=n->gF d b (aV f c 0 [.s (e.cut 0 n 3)]) (e.cut 0 (lB h h.length) 3) (pd h)/\dJ (aV f c 0 [.s (e.cut 0 n 3)]) c gU [.s (e.cut 0 (lB h h.length) 3)]/\HC b f b (aV f c 0 [.s (e.cut 0 n 3)]):=λw=>by
  have g:dZ (λk=>k=5) b f b (aV f c 0 [.s (e.cut 0 n 3)]):=dZ.aV B D _ _;have j:lB h h.length=n:=by rw[<-u,w]
  rw[j];refine⟨?_,dJ.aV (m:=f) (o:=0) (r:=[.s (e.cut 0 n 3)]) kb,g.aO λk A=>bG (bu A)⟩;have:=(s.gX g cH cH).rc C;unfold pd;rw[j];exact this
 refine dit (λz=>?_) λz=>?_
 .obtain⟨k,rfl⟩:∃k,n=k+1:=⟨n -1,V⟩
  have j:eR (((k+1:Nat):Int) -1)=(k:Int):=by rw[iC];omega
  let⟨v,g⟩:=dY h k
  obtain⟨E,G,y,_⟩:=t.D g
  refine⟨e,l,?_⟩
  rw[j]
  refine⟨V,V,v.ct,sp y,λq=>⟨⟨rfl,k,rfl,V,?_⟩,by show(k:Int).toNat<((k+1:Nat):Int).toNat;omega⟩,λq=>⟨e,l,V,V,V,kb.iQ bO,?_⟩⟩
  .rw[<-u,UW g (sp q)]
  .rw[x,en];exact j7 (QE g (sp q))
 .have q:n=0:=V
  subst q
  exact⟨e,l,V,V,V,kb.iQ bO,j7 rfl⟩
def J5{g:N}(hh:gF d b a g h)(hn:∀i,a.size<=i->b i=0)(kb:dJ a c gU [.s g])(hr:b c=5){u:Int}{W:Nat->Int}(hI:iW h (λi=>W i+kC [u] i))(Z:∀i,0<=W i)(aO:h.length<=2000000000):
 bJ dN 96 [vp c 0,vi u] a λ_ r=>∃t aq,gF d t r aq (pd (jx h [u]))/\dJ r c gU [.s aq]/\HC b a t r:=by
 apply D0 (c,0)
 intro B
 obtain⟨X,s1⟩:=pu B
 have o1:jo a B bE 1 (.mk a.size 0 1 1) ([u].map Ce.i):=jo.bI (J.cZ a) bE 1 _ 1 bO
 have c1:HC b a (p7 b a.size 6) B:=dZ.p7 X hn bW V 6
 have a1:iJ (p7 b a.size 6) B bE 1 6 (.mk a.size 0 1 1) ([u].map Ce.i):=iJ.jM o1 λ_=>iP
 have aE:gF d (p7 b a.size 6) B g h:=hh.gX (dZ.p7 (p:=λ_=>False) X hn bW V 6) id id
 have aI:=kb.ext X
 have aF:p7 b a.size 6 c=5:=by rw[fO (oh kb.lt)];exact hr
 clear_value B
 have aL:=Sv λaz e=>(hI.iu az e).fl
 have aM:=hh.aS
 refine Tn (γ:=ah×ab) (λj H r=>∃t,gF d t r g j.1/\iJ t r bE 1 6 H (j.2.reverse.map Ce.i)/\HC b a t r/\iW j.1 (λi=>W i+kC j.2 i)/\jx j.1 j.2=jx h [u]/\j.1.length=h.length/\j.2.length+Gl j.1<=1+Gl h/\dJ r c gU [.s g]/\t c=5) (λj=>DL j.1+j.2.length) (h,[u])
  ⟨_,aE,a1,c1,hI,rfl,rfl,bO,aI,aF⟩ ?_
 rintro⟨e,st⟩ H m2 aJ μ ⟨n,C,a2,j,v,y,L,ak,P,z⟩ ae
 simp only[]at C a2 v y L ak
 have av:H.len=st.length:=by have:=a2.aS;simp at this;omega
 refine dit (λh3=>?_) λh3=>?_
 .cases st with
  |nil=>simp at av;omega
  |cons x s=>
   simp only[Vb]at a2
   let⟨p1,p2,p3⟩:=a2.pop
   simp only[dE,qe]at av p1 p2 p3 ak
   have e1:eR ((H.len:Int) -1)=(s.length:Int):=by rw[iC];omega
   have aK:=a2.le
   have e2:Int.toNat (0:Int)=0:=rfl
   have e3:Int.toNat (s.length:Int)=s.length:=V
   have aw:1000<=x->iH e x:=λO=>v.TU Z O
   have aH:x<=9223372036854775807:=by
    rcases fP (1000<=x)with k|k
    .have:=bA (dH (aw k)).1;unfold ix at this;omega
    .omega
   refine⟨g,P.dz 0,?_⟩
   rw[e1,e2,e3]
   refine⟨V,V,x,p2,(oE (C.kG V) aH).aO ?_⟩
   rintro _ Q ⟨ay,i,rfl,ai,aC,q⟩
   refine⟨ay,i,rfl,V,V,V,λaD=>?_,λaj=>?_⟩
   .have O:=nb ai aD
    have I:HC n m2 n Q:=dZ.fV q j.bI
    refine ae (e,s) _ _ ⟨n,C.gX (dZ.fV (p:=λ_=>False) q j.bI) id id,p3.gX (dZ.fV (p:=λ_=>False) q j.bI) id,j.O I,v.WR ?_,?_,L,by simp only[];omega,P.ext q,z⟩ bO
    .rcases fP (1000<=x)with k|k
     .exact absurd (aw k) O
     .omega
    .rw[<-sC (w:=x) O];exact y
   .have F:=yb ai aj
    have aB:=aC (sp aj)
    subst aB
    let⟨m,ar⟩:=dH F
    have an:=bA m
    have aN:=(v.iu _ (aZ m)).hi
    have aA:Int.toNat ((ix x:Nat):Int)=ix x:=V
    have I:HC n m2 n Q:=dZ.fV q j.bI
    have D:gF d n Q g e:=C.gX (dZ.fV (p:=λ_=>False) q j.bI) id id
    have a3:=p3.gX (dZ.fV (p:=λ_=>False) q j.bI) id
    have G:=P.ext q
    obtain⟨f0,g0,_,_,_,_⟩:=D.dz m
    refine⟨g,G.dz 0,?_⟩
    rw[aA]
    refine⟨V,V,_,g0,V,V,D.wr (o:=0) an cH,?_⟩
    have e5:eR ((bt e x).ct -1)=(bt e x).ct -1:=iC
    rw[e5]
    intro m4
    let⟨ac,T⟩:=D.xG I.bI m ((bt e x).ct -1)
    have a4:=a3.gX T cH
    have A:dJ m4 c gU [.s g]:=G.congr (T.fL _ G.lt (by rw[z];decide))
    have S:HC b a n m4:=(j.O I).O (T.aO λax E=>bu E)
    have Y:=lY (d:=kN) m
    simp only[ba ar,kN]at Y
    simp at Y
    have aG:(e.set (ix x) {bt e x with ct:=(bt e x).ct -1})[ix x]? =some {bt e x with ct:=(bt e x).ct -1}:=k8 m
    obtain⟨f1,k0,_,k2,kf,kr⟩:=ac.dz aG
    refine⟨g,A.dz 0,V,V,_,k0,λk=>?_,λk=>?_⟩
    .simp only[bP]at k
     have ap:(bt e x).ct=1:=V
     have aa:=kf.aS
     simp only[]at aa kf kr
     have K:=DV kN m
     simp only[kN,kD]at K
     refine⟨g,A.dz 0,V,V,f1,k2,iJ.fy (f:=[.i 0]) (new:=(bt e x).bU.map Ce.i) a4 S.bI (by simp[aa]) kf.Eu ?_ λaf aP m5 q1 R=>?_⟩
     .have:(H.cut 0 s.length 1).len=s.length:=by have:=a4.aS;simp at this;omega
      rw[this,aa];omega
     have al:=ac.gX R cH cH
     have ag:HC b a af m5:=S.O (R.aO λax E=>bG (bG E))
     have ad:dJ m5 c gU [.s g]:=A.congr (R.fL _ A.lt (by rw[z];decide))
     have au:af c=5:=by rw[R.j8 _ A.lt];exact z
     have ao:ix x<(e.set (ix x) {bt e x with ct:=(bt e x).ct -1}).length:=sp an
     refine⟨g,ad.dz 0,V,V,al.wr (o:=0) ao cH,?_⟩
     intro m7
     let⟨am,U⟩:=al.pI ag.bI ao 0 0 (f:=.nil) (l:=[]) ⟨rfl,bO,bO,bO⟩ (λM=>absurd rfl M)
     rw[Vd]at am
     refine ae (e.set (ix x) kN,(bt e x).bU.reverse++s) _ _ ⟨af,am,?_,ag.O (U.aO λax E=>bu E),v.WT Z F ap,?_,sp L,?_,ad.congr (U.fL _ ad.lt (by rw[au];decide)),au⟩ ?_
     .have:=q1.gX U cH
      simpa using this
     .rw[<-uC F ap];exact y
     .simp only[dj,qe]
      have E:Gl (e.set (ix x) kN)+(bt e x).bU.length=Gl e:=by simpa[kN]using K
      omega
     .simp only[dj,qe,dE]
      have E:DL (e.set (ix x) kN)+((bt e x).ct.toNat+(bt e x).bU.length)=DL e:=by simpa[kN]using Y
      omega
    .simp only[a8]at k
     have M:(bt e x).ct≠1:=V
     have E:=lY (d:={bt e x with ct:=(bt e x).ct -1}) m
     simp only[ba ar]at E
     rw[ba V]at E
     have K:=DV {bt e x with ct:=(bt e x).ct -1} m
     refine ae (iG e x,s) _ _ ⟨n,ac,a4,S,v.TV Z F M,?_,by simpa[iG]using L,?_,A,z⟩ ?_
     .rw[<-sB F M];exact y
     .simp only[iG];simp only[]at K;omega
     .simp only[iG,dE];omega
 .have k:st=[]:=cr.1 V
  subst k
  rw[uB]at y
  subst y
  refine(yM C j.bI P z V).aO ?_
  rintro _ Q ⟨D,G,i⟩
  exact⟨n,_,D,G,j.O i⟩
def Uc{i:N}(f:jF a i h):bJ dN 203 [i.v,.func (.func 204) #[] #[]] a λB j=>∃r:Int,B=vi r/\J a j/\(if fD h=h.length then r= -1 else r=fD h):=by
 apply oY i (.func 204,#[],#[]);have y:=f.aS;refine ik (n:=h.length) (y▸f.kA) (λk j=>J a j/\∀b∈h.take k,b.ct≠0) ⟨di,bO⟩ ?_;rintro k o I μ x ⟨e,g⟩ A
 refine dit (λs=>?_) λs=>?_
 .let⟨b,d⟩:=dY h k;let⟨l,C,q,g1,g2⟩:=(jF.ext e f).D d;refine⟨V,V,b.ct,sp q,_,sp g1,l,sp g2,204,rfl,cH,?_⟩;have v:gK dN 204 [.agg #[vi b.ct,vi b.jJ,l.v]] o (b.ct=0):=by
   apply zZ;simp -zeta only[dU];intro z;exact lg bO ((J.cZ o).cw _)
  refine bJ.aO v ?_;rintro _ z ⟨p,rfl,c,m⟩;refine⟨p,rfl,λu=>⟨_,rfl,e.O m,?_⟩,λt=>A V _ ⟨e.O m,eC d g (fb c t)⟩⟩;have w:=Lm h k b g d (c.1 u);have:=bA d;rw[aU V,w]
 .refine⟨_,rfl,e,?_⟩;have:=DU h k x g;have:=sY h;rw[ba V]
def Iq{f:N}(l:gF d b a f h)(C:∀s,a.size<=s->b s=0)(kb:dJ a c gU [.s f])(M:b c=5)(G:Int){W:N}{F:ab}(hf:bd a W F)(an:h.length<=1000000000)(Z:F.length<=1000000000)(Y:d<=a.size):
 bJ dN 144 [vp c 0,vi G,W.v] a λaj Q=>∃i aa,aj=vi (1000+fD h)/\gF d i Q aa (jB h (fD h) ⟨1,G,F⟩)/\dJ Q c gU [.s aa]/\HC b a i Q:=by
 apply CR (c,0)
 simp -zeta only[dU]
 refine(ly hf Z).bZ Z λT m1 o1 i1 X=>⟨T,rfl,?_⟩
 intro m2 m3
 obtain⟨A,s3⟩:=pv m3
 have O:=X.O A
 clear_value m3
 have ac:F≠[]->b T.bq=0:=λag=>by
  rcases o1.bq with j|j
  .subst j;have:=i1.aS;simp at this;exact absurd (cr.1 this.symm) ag
  .exact C _ j
 have K:b m1.size=0:=C _ X.aP
 have al:=l.aS
 have ak:=sY h
 refine⟨f,O.aR (kb.dz 0),(Uc (jF.ext O (l.kG V))).aO ?_⟩
 rintro _ y ⟨ai,rfl,q,D⟩
 have w:=O.O q
 have t:HC b a b y:=dZ.fV w C
 have L:gF d b y f h:=l.gX (dZ.fV (p:=λ_=>False) w C) id id
 have n:=kb.ext w
 have i4:=i1.ext (A.O q)
 have am:=q.aP
 refine⟨q.fq fj,ai,rfl,λj=>?_,λj=>?_⟩
 .simp at j
  have B:fD h=h.length:=by
   rcases fP (fD h=h.length)with u|u
   .exact u
   .rw[aU u]at D;omega
  refine⟨f,n.dz 0,f,n.dz 0,?_⟩
  intro z
  obtain⟨k,s5⟩:=pu z
  have np:jt z y.size 0 [.i 1,.i G,.s T]:=(dJ.push y _ _).kV
  have U:HC b a b z:=t.O (dZ.fV k t.bI)
  clear_value z
  refine⟨k.db (n.dz 0),gF.push (L.gX (dZ.fV (p:=λ_=>False) k t.bI) id id) U.bI (x:=.mk y.size 0 1 1) rfl np (i4.ext k) (XH.of l (λJ=>(w.O k).bC _ (l.bq J).2) (λ_=>o1.ext ((A.O q).O k)) ac Y) V λi ae R S e=>?_⟩
  have P:=n.ext k
  have ad:dJ R c gU [.s f]:=P.congr (e.fL _ P.lt (by rw[M];decide))
  have ah:i c=5:=by rw[e.j8 _ P.lt];exact M
  have af:i m1.size=0:=by rw[e.j8 _ V];exact K
  refine⟨λs g=>?_,ad.iQ bO,?_⟩
  .simp at g;subst g
   exact e.fL _ V (by rw[K];decide)
  intro m7
  have H:dZ (λE=>E=5) i R i m7:=dZ.aV e.bI ah _ _
  have I:eR (1000+(f.len:Int))=1000+(fD h:Int):=by rw[iC];omega
  rw[I]
  refine⟨λs g=>?_,i,ae,rfl,?_,dJ.aV (m:=R) (o:=0) (r:=[.s ae]) ad,(U.O (e.aO λE v=>bu v)).O (H.aO λE v=>bG (bu v))⟩
  .simp at g;subst g
   exact H.fL _ (oh e.aP) (by rw[af];decide)
  .rw[jB,ba B];exact S.gX H cH cH
 .simp at j
  have B:fD h≠h.length:=λu=>by rw[ba u]at D;omega
  rw[aU B]at D
  subst D
  have k:fD h<h.length:=V
  have H:Int.toNat ((fD h:Nat):Int)=fD h:=V
  have I:eR (1000+(fD h:Int))=1000+(fD h:Int):=iC
  refine⟨f,n.dz 0,?_⟩
  rw[H,I]
  refine⟨V,V,L.wr (o:=0) k cH,?_⟩
  intro z
  let⟨S,e⟩:=L.pI t.bI k 1 G i4 (XH.of l (λJ=>w.bC _ (l.bq J).2) (λ_=>o1.ext (A.O q)) ac Y)
  refine⟨λs g=>?_,b,f,rfl,?_,n.congr (e.fL _ n.lt (by rw[M];decide)),t.O (e.aO λE v=>bu v)⟩
  .simp at g;subst g
   exact e.fL _ V (by rw[K];decide)
  .rw[jB,aU B];exact S
end
section
variable{l:ab}
def Sy{f b c:Int}(l:mI b)(m:mI c)(a:E):Gg dN 143 [vi f,vi b,vi c] a (vi (SS f b c)):=by
 unfold mI at l m;have r: -2000000<=b*c/\b*c<=2000000:=by
  have e:(b*c).natAbs<=999*999:=by rw[Int.natAbs_mul];exact QK V V
  omega
 have d:∀n:Int,(if(999:Int)<(if(-999:Int)>n then(-999:Int)else n)then(999:Int)else(if(-999:Int)>n then(-999:Int)else n))=JO n:=λn=>by
  grind [JO]
 have o:eR (b+c)=b+c:=by grind [dt]
 have p:eR (b -c)=b -c:=by grind [dt]
 have q:eR (b*c)=b*c:=by grind [dt]
 apply Nz;rw[o,p,q,d,d,d];unfold SS;refine⟨λh=>by simp at h;omega,λ_=>⟨λh=>by simp at h;omega,λ_=>⟨λh=>by simp at h;omega,λ_=>⟨λh=>by simp at h;omega,λ_=>⟨λe=>?_,λe=>⟨λg=>?_,λg=>⟨λi=>?_,λi=>⟨λj=>⟨λk=>?_,λk=>?_⟩,λj=>?_⟩⟩⟩⟩⟩⟩⟩⟩
 .grind [J.cZ]
 .grind [J.cZ]
 .grind [J.cZ]
 .grind [J.cZ]
 .grind [J.cZ]
 .grind [J.cZ]
def zq{a:E}{fb d:Nat}{f:bS}{u:N}(w:aR a fb (d+3)=some u.v)(p:bd a u f.aT){s:N}(q:bd a s l)(z:∀y∈l,0<=y/\y<f.aT.length)(M:l.length<=100000000):
 sq 95 [vp fb d,s.v] a (dO f l):=by
 apply Bc (fb,d)
 have L:=q.aS
 have K:=p.aS
 have t:Int.toNat (s.len:Int)=l.length:=V
 rw[t]
 refine⟨V,dR _,V,V,?_⟩
 intro j
 have x:=px j
 have B:dJ j a.size bE ((eQ l.length).map Ce.i):=by grind [sP,dJ.push]
 clear_value j
 simp only[N.mP,N.Bo,N.lJ,fB]
 refine ik (n:=l.length) V (λk b=>J a b/\dJ b a.size bE ((dO f (l.take k)++eQ (l.length -k)).map Ce.i)) ⟨x,by simpa[dO]using B⟩ ?_
 rintro k C I μ H ⟨b,c⟩ F
 refine dit (λh=>?_) λh=>?_
 .let⟨y,g⟩:=dY l k
  have i:=z y (aZ g)
  have v:Int.toNat (k:Int)*1=k:=V
  refine⟨V,V,y,by simpa using b.aR (q.D g),u,b.aR w,i.1,V,_,b.aR (p.um i.1 i.2),V,V,?_⟩
  rw[v]
  have e:(dO f (l.take k)).length=k:=by grind [dO]
  refine⟨c.iQ (by simp[e,lO];omega),?_⟩
  refine F V _ ⟨b.aV bW _ _,?_⟩
  have:=dJ.aV (m:=C) (o:=k) (r:=[.i (D f.aT y)]) c
  have G:jh ((dO f (l.take k)++eQ (l.length -k)).map Ce.i) k [.i (D f.aT y)]=(dO f (l.take (k+1))++eQ (l.length -(k+1))).map Ce.i:=by
   have A:eQ (l.length -k)=0::eQ (l.length -(k+1)):=by
    have:l.length -k=(l.length -(k+1))+1:=V;rw[this];rfl
   rw[A,kE,oI _ _ _ _ (by simp[e])];simp only[jq,e,Vf,eI,jh,mW];rw[bX g];simp[dO]
  grind
 .have e:k=l.length:=V
  subst e
  rw[fx,Vf]at c
  simp only[eQ,Rm,fH]at c
  refine⟨_,rfl,⟨by simp[dO],bG ⟨a.size,l.length,[],rfl,bW,by rw[fH];exact c,by simp[dO],bW⟩⟩,b⟩
abbrev IB(d p:N)(c:Int)(s:St)(cC g b:N):ae:=[.s d,.s p,.i c,.i s.dT,.i s.je,.i s.df,.i s.dG,.s cC,.s g,.s b]
def Gh(t:E)(j:ag)(a:E)(k:Nat)(d p:N)(c:Int)(s:St)(e:E):Prop:=
 ∃f cC g b,zP t f e k dv (IB d p c s cC g b) cC g b s.cC s.aQ s.bn/\To j a f e
def Gh.from{t:E}{j i:ag}{a f e:E}{k:Nat}{d p:N}{c:Int}{s:St}(h:Gh t i f k d p c s e)(n:To j a i f):Gh t j a k d p c s e:=
 let⟨o,cC,g,b,l,m⟩:=h
 ⟨o,cC,g,b,l,n.O m⟩
section
variable{t:E}{j r:ag}{a i:E}{k e:Nat}{m:ae}{cC g b:N}{o:ab}{n:ah}{q:ak}{f:bS}{u v h:N}{w:List ae}
def ST.ae1(S:ST t j a k e m cC g b o n q f u v h w)(c:dZ (λ_=>False) j a r i):ST t r i k e m cC g b o n q f u v h w/\To j a r i:=by
 let⟨L,d⟩:=S.eH.jK (c.aO λ_=>False.elim) (S.eH.aQ.gX c id id);exact⟨⟨L,S.jz.gX c λ_ _=>id⟩,d⟩
def ST.fp(S:ST t j a k e m cC g b o n q f u v h w)(c:f.aT.length<=1000000/\f.bF.length<=1000000/\f.cQ.length<=1000000):FP a b.bq (b.off+q.length*6) f u v h:=by
 obtain⟨_,_,_,d,i,l⟩:=S.jz.kV;exact⟨d,i,l,S.Es c.1,S.Nf c.2.1,S.VU c.2.2⟩
def vh(S:ST t j a k e m cC g b o n q f u v h w){d:Int}(c:0<=d)(r:d<f.aT.length)(z:d<f.bF.length)(l bF:Int):
 bJ dN 92 [vp b.bq (b.off+q.length*6),vi d,vi l,vi bF] a λ_ i=>ST t j i k e m cC g b o n q (f.cB d l bF) u v h w/\To j a j i:=by
 apply DX (b.bq,b.off+q.length*6)
 obtain⟨_,_,_,x,y,A⟩:=S.jz.kV
 have C:u.len=f.aT.length:=by have:=S.jz.aT.aS;simp at this;omega
 have B:v.len=f.bF.length:=by have:=S.jz.bF.aS;simp at this;omega
 let⟨p,t1⟩:=S.IE c r l
 let⟨s,t2⟩:=p.tX c cG bF
 exact⟨u,x,v,y,c,V,S.jz.aT.Tp c r,c,V,p.jz.bF.Tp c z,s,t1.O t2⟩
end
variable{t:E}{j:ag}{a:E}{k:Nat}{d p cC g b:N}{c:Int}{s:St}{q:ak}{f:bS}{u v h:N}{w:List ae}
def ST.Sw{e:Nat}{c:ae}{i:ab}{d:ah}(S:ST t j a k e c cC g b i d q f u v h w):
 ST t (p7 j a.size 5) (aV (a.push (.cells (de [.s N.nil]) gU)) a.size 0 [.s g]) k e c cC g b i d q f u v h w/\To j a (p7 j a.size 5) (aV (a.push (.cells (de [.s N.nil]) gU)) a.size 0 [.s g])/\
  dJ (aV (a.push (.cells (de [.s N.nil]) gU)) a.size 0 [.s g]) a.size gU [.s g]:=by
 have p:J a (aV (a.push (.cells (de [.s N.nil]) gU)) a.size 0 [.s g]):=by grind [J.cZ,J.cw,J.aV]
 have n:dZ (λ_=>False) j a (p7 j a.size 5) (aV (a.push (.cells (de [.s N.nil]) gU)) a.size 0 [.s g]):=dZ.p7 p S.eH.bI bW (by rw[bD];simp) 5
 let⟨l,t1⟩:=S.ae1 n
 exact⟨l,t1,dJ.aV (m:=a.push (.cells (de [.s N.nil]) gU)) (o:=0) (r:=[.s g]) (dJ.push a _ _)⟩
def HH(S:ST t j a k dv (IB d p c s cC g b) cC g b s.cC s.aQ q f u v h w)(n:Int){z:N}(E:bd a z l)(L:l.length<=1000000)(D:s.aQ.length<=1000000000):
 bJ dN 94 [vp k 0,vi n,z.v] a λK x=>K=vi (1000+fD s.aQ)/\∃y r,ST t y x k dv (IB d p c s cC r b) cC r b s.cC (jB s.aQ (fD s.aQ) ⟨1,n,l⟩) q f u v h w/\To j a y x:=by
 apply zj (k,0)
 simp -zeta only[dU]
 refine⟨g,S.eH.bT.dz 8,?_⟩
 intro M H
 let⟨e,t2,kb⟩:=S.Sw
 have F:=py H
 refine(Iq e.eH.aQ e.eH.bI kb iP n (E.ext F) D V e.eH.da.aP).aO ?_
 rintro _ O ⟨I,m,rfl,C,G,B⟩
 let⟨o,t3⟩:=e.jK B C
 refine⟨_,rfl,m,G.dz 0,o.eH.pE (i:=8) bO,?_⟩
 intro P
 let⟨A,J⟩:=o.lL 8 [.s m]
 exact⟨rfl,I,m,A,(t2.O t3).O J⟩
def J4(S:ST t j a k dv (IB d p c s cC g b) cC g b s.cC s.aQ q f u v h w){x:Instr}{W aq:N}(ha:bd t W x.aN)(af:∀y∈x.aN,0<=y/\y<f.aT.length)(ax:x.aN.length<=4)
 (aA:f.aT.length=f.bF.length/\f.cQ.length=f.bF.length/\f.bF.length<=2000)(az:0<=x.cY/\x.cY<=f.cQ.length)(aj:s.aQ.length<=1000000000)(al:∀e∈f.cQ,e≠0->1000<=e/\ix e<s.aQ.length):
 bJ dN 93 [vp k 0,vp b.bq (b.off+q.length*6),xv x W aq] a λav m'=>∃(H:ag)(F:N)(l:Nat)(e:bS),av=vi (1000+l)/\ST t H m' k dv (IB d p c s cC F b) cC F b s.cC (jB s.aQ l ⟨1,x.cE,dO f x.aN⟩) q e u v h w/\To j a H m'/\
  e.aT=f.aT/\e.bF=f.bF/\e.pc=f.pc/\(∀y,rm s q {f with pc:=y} x x.cE={s with aQ:=jB s.aQ l ⟨1,x.cE,dO f x.aN⟩,bn:=q++[bS.cB {e with pc:=y+1} x.br (1000+l) 1]}):=by
 apply vL (k,0) (b.bq,b.off+q.length*6)
 simp -zeta only[dU]
 intro M
 obtain⟨ao,s1⟩:=pu M
 let⟨z,t1⟩:=S.ext ao
 have T:CF j M [a.size]:=λaw hb=>by simp at hb;subst hb;exact⟨V,S.eH.bI _ bW⟩
 clear_value M
 have U:=z.fp ⟨V,V,V⟩
 have ay:h.len=f.cQ.length:=by have:=S.jz.cQ.aS;simp at this;omega
 refine(zq U.g3 U.aT (ha.ext z.eH.da) af V).aO ?_
 rintro _ P ⟨C,rfl,R,Z⟩
 let⟨m,t2⟩:=z.ext Z
 have J:=T.to t2
 have aC:(dO f x.aN).length=x.aN.length:=by simp[dO]
 have G:bd P C (dO f x.aN):=bd.jM R V
 have ad:=t1.O t2
 have none:¬(x.cY≠0/\D f.cQ (x.cY -1)≠0)->bJ dN 94 [vp k 0,vi x.cE,C.v] P λar O=>gL [a.size] P O/\∃ac:Int,ar=vi ac/\∃(H:ag)(F:N)(l:Nat)(e:bS),vi ac=vi (1000+l)/\ST t H O k dv (IB d p c s cC F b) cC F b s.cC (jB s.aQ l ⟨1,x.cE,dO f x.aN⟩) q e u v h w/\To j a H O/\
  e.aT=f.aT/\e.bF=f.bF/\e.pc=f.pc/\(∀y,rm s q {f with pc:=y} x x.cE={s with aQ:=jB s.aQ l ⟨1,x.cE,dO f x.aN⟩,bn:=q++[bS.cB {e with pc:=y+1} x.br (1000+l) 1]}):=λam=>by
  refine(HH m x.cE G V aj).aO ?_
  rintro _ Q ⟨rfl,au,an,n,t3⟩
  exact⟨t3.fR J,_,rfl,au,an,fD s.aQ,f,rfl,n,ad.O t3,rfl,rfl,rfl,λy=>by rw[rm,aU am];rfl⟩
 refine⟨t2.fR T,C,rfl,λE=>none λK=>by simp at E;exact K.1 E,λE=>?_⟩
 simp at E
 have e1:eR (x.cY -1)=x.cY -1:=iC
 have i:0<=x.cY -1/\x.cY -1<f.cQ.length:=V
 have I:=m.fp ⟨V,V,V⟩
 have X:=I.cQ.um i.1 i.2
 refine⟨h,I.g5,?_⟩
 rw[e1]
 refine⟨V,V,_,X,λB=>none λK=>by simp at B;exact K.2 B,λB=>?_⟩
 simp at B
 let⟨aa,ab⟩:=al _ (gS i.1 i.2) B
 have aB:=m.eH.aQ.aS
 refine⟨h,I.g5,V,V,_,X,h,I.g5,V,V,m.jz.cQ.Tp i.1 i.2,?_⟩
 intro Q
 let⟨n,t3⟩:=m.Gc i.1 i.2 0
 have B3:=J.to t3
 have ak:ix (D f.cQ (x.cY -1))=(D f.cQ (x.cY -1) -1000).toNat:=rfl
 have e2:eR (D f.cQ (x.cY -1) -1000)=D f.cQ (x.cY -1) -1000:=iC
 refine⟨t3.fR J,g,n.eH.bT.dz 8,?_⟩
 rw[e2,<-ak]
 refine⟨V,V,n.eH.aQ.wr (o:=0) ab cH,?_⟩
 intro m4
 have L:dO f x.aN≠[]->j C.bq=0:=λr=>by
  rcases R.bq with A|A
  .subst A;have:=G.aS;simp at this;exact absurd (cr.1 this.symm) r
  .exact S.eH.bI _ V
 have ap:bd Q C (dO f x.aN):=jV G λr=>t3.fL _ (lG G r) (by rw[L r];simp)
 have ai:h.cap≠0:=λA=>by have:=(m.jz.cQ.zV A).1;simp at this;rw[this]at i;simp at i;omega
 have ae:XH t.size j Q g s.aQ C (dO f x.aN):=XH.of z.eH.aQ (λY=>(cg _ _ _ _ λA=>by have q1:=(m.jz.cQ.bq ai).2;have q2:=(m.eH.aQ.bq Y).1;rw[A,q1]at q2;omega).trans (Z.bC _ (z.eH.aQ.bq Y).2)) (λr=>R.congr (t3.fL _ (lG G r) (by rw[L r];simp))) L z.eH.da.aP
 let⟨ah,c4⟩:=n.eH.aQ.pI n.eH.bI ab 1 x.cE ap ae
 let⟨S4,t4⟩:=n.jK (c4.aO λaD Y=>bu Y) ah
 have Y:jB s.aQ (ix (D f.cQ (x.cY -1))) ⟨1,x.cE,dO f x.aN⟩=s.aQ.set (ix (D f.cQ (x.cY -1))) ⟨1,x.cE,dO f x.aN⟩:=by rw[jB,aU V]
 refine⟨t4.fR B3,j,g,ix (D f.cQ (x.cY -1)),{f with cQ:=gT f.cQ (x.cY -1) 0},by rw[nC aa],by rw[Y];exact S4,(ad.O t3).O t4,rfl,rfl,rfl,λy=>?_⟩
 rw[rm,ba ⟨E,B⟩,Y,nC aa];rfl
end
section
variable{w:Int}
def Pw:∀(b:ab)(g:ah),(∀v∈b,iH g v)->∀x,iH g x->iH (kK g b) x
 |[],g,_,x,c=>c
 |v::b,g,d,x,c=>by
  have e:=d v cK;have up:∀y,iH g y->iH (pX g v) y:=λy a=>⟨a.1,(jf.pX e).2 a.2⟩;exact Pw b (pX g v) (λy a=>up y (d y (aW _ a))) x (up x c)
def Ye{h:ah}(c:iH h w)(d:(bt h w).ct≠1){x:Int}(a:iH h x):iH (iG h w) x:=by
 let⟨f,b⟩:=dH c;refine⟨a.1,?_⟩;by_cases e:ix x=ix w
 .grind [iG,jf.Gu]
 .exact(jf.ne e).2 a.2
variable{t:E}{e:ag}{m:E}{j:Nat}{d u cC b g:N}{c:Int}{s:St}{q:ak}{a:bS}{r y h:N}{v:List ae}
open Classical in
noncomputable def vI (g:ah) (w:Int) (fL:Bool):ah:=
 if(bt g w).ct=1/\fL=true then g.set (ix w) ⟨-1,0,eQ (bt g w).bU.length⟩else iO g w
def HI(S:ST t e m j dv (IB d u c s cC b g) cC b g s.cC s.aQ q a r y h v)(ab:iH s.aQ w)(fL:Bool){ap:Nat->Int}(M:iW s.aQ ap)(aG:s.aQ.length<=1000000000):
 bJ dN 101 [vp j 0,vi w,vb fL] m λk B=>∃G:Bool,k=vb G/\(G=true<->(bt s.aQ w).ct=1/\fL=true)/\∃an ak,ST t an B j dv (IB d u c s cC ak g) cC ak g s.cC (vI s.aQ w fL) q a r y h v/\To e m an B:=by
 apply zk (j,0)
 simp -zeta only[dU]
 let⟨D,aN⟩:=dH ab
 have J:=bA D
 have aJ:=S.eH.aQ.aS
 have aI:=ab.1
 have ax:ix w=(w -1000).toNat:=rfl
 have e4:eR (w -1000)=w -1000:=iC
 have ad:=M.iu _ (aZ D)
 have aK:=ad.hi
 have aE:=ad.fl
 have g8:aR m j 8=some b.v:=S.eH.bT.dz 8
 let⟨f0,X,g1,g2,gf,gr⟩:=S.eH.aQ.dz D
 have aF:=gf.aS
 rw[e4,<-ax]
 refine⟨b,g8,V,V,λB=>B=m/\¬((bt s.aQ w).ct=1/\fL=true),⟨_,X,λz=>⟨λA=>?_,λA=>⟨rfl,λx=>by rw[A]at x;simp at x⟩⟩,λz=>⟨rfl,λx=>by simp at z;exact z x.1⟩⟩,?_⟩
 .simp at z
  have U:Int.toNat (f0.len:Int)=(bt s.aQ w).bU.length:=V
  refine⟨f0,g2,V,dR _,V,V,?_⟩
  rw[U]
  intro C
  have K:=px C
  have L:jo m C bE 1 (.mk m.size 0 (bt s.aQ w).bU.length (bt s.aQ w).bU.length) ((eQ (bt s.aQ w).bU.length).map Ce.i):=by
   have W:C=m.push (.cells (de ((eQ (bt s.aQ w).bU.length).map Ce.i)) bE):=by rw[<-sP]
   rw[W];exact RW _
  let⟨E,t1⟩:=S.ext K
  clear_value C
  refine⟨E.eH.aQ.wr (o:=0) J cH,?_⟩
  intro m2
  let⟨F,H⟩:=E.eH.aQ.pI E.eH.bI J (-1) 0 (bd.jM L (by rw[lO];omega)) (XH.of S.eH.aQ (λx=>K.bC _ (S.eH.aQ.bq x).2) (λ_=>L) (λ_=>S.eH.bI _ bW) S.eH.da.aP)
  let⟨I,t2⟩:=E.jK (H.aO λx A=>bu A) F
  refine⟨true,rfl,by simp[z,A],e,b,?_,t1.O t2⟩
  rw[vI,ba ⟨z,A⟩];exact I
 .rintro C ⟨rfl,aj⟩
  have ag:(false=true<->(bt s.aQ w).ct=1/\fL=true):=⟨sx,λh=>absurd h aj⟩
  rw[show vI s.aQ w fL=iO s.aQ w by rw[vI,aU aj]]
  refine⟨_,X,λz=>?_,λz=>?_⟩
  .simp at z
   refine⟨S.eH.aQ.wr (o:=0) J cH,?_⟩
   intro m2
   let⟨F,H⟩:=S.eH.aQ.pI S.eH.bI J 0 0 (f:=.nil) (l:=[]) ⟨rfl,bO,bO,bO⟩ (λR=>absurd rfl R)
   let⟨I,t2⟩:=S.jK (H.aO λx A=>bu A) F
   refine⟨b,I.eH.bT.dz 8,?_⟩
   intro m3 m4
   let⟨E,P,kb⟩:=I.Sw
   refine(yM E.eH.aQ E.eH.bI kb iP fj).aO ?_
   rintro _ Y ⟨aa,O,L⟩
   let⟨K,Q⟩:=E.jK L aa
   refine⟨_,O.dz 0,K.eH.pE (i:=8) bO,?_⟩
   intro Z
   let⟨N,T⟩:=K.lL 8 [.s (b.cut 0 (lB (s.aQ.set (ix w) ⟨0,0,[]⟩) (s.aQ.set (ix w) ⟨0,0,[]⟩).length) 3)]
   refine⟨false,rfl,ag,_,b.cut 0 (lB (s.aQ.set (ix w) ⟨0,0,[]⟩) (s.aQ.set (ix w) ⟨0,0,[]⟩).length) 3,?_,((t2.O P).O Q).O T⟩
   rw[iO,ba z];exact N
  .simp only[a8]at z
   have U:eR ((bt s.aQ w).ct -1)=(bt s.aQ w).ct -1:=iC
   refine⟨_,X,S.eH.aQ.wr (o:=0) J cH,?_⟩
   rw[U]
   intro m2
   let⟨F,H⟩:=S.eH.aQ.xG S.eH.bI D ((bt s.aQ w).ct -1)
   let⟨f1,k0,k1,k2,kf,kr⟩:=F.dz (k8 D)
   simp only[]at kf kr
   have aH:=kf.aS
   refine⟨f1,k2,?_⟩
   have af:∀{B},dZ (λx=>x=3) e C e B->aR B j 8=some b.v:=λhc=>by rw[bB (hc.fL _ S.eH.bT.lt (by rw[S.eH.Yp];decide))];exact g8
   have ai:∀k∈(bt s.aQ w).bU,1000<=k->iH (iG s.aQ w) k:=λk E b=>Ye ab z (M.pQ (aZ D) E b)
   have aw:∀T∈iG s.aQ w,-10<=T.ct/\T.ct<=999999:=λT hq=>by
    rcases rQ hq with rfl|⟨G,_,N⟩
    .simp only[];omega
    .have:=M.iu T (aZ N);have h5:=this.lo;have Z:=this.hi;omega
   refine ik (n:=(bt s.aQ w).bU.length) V (λx B=>gF t.size e B b (kK (iG s.aQ w) (nU ((bt s.aQ w).bU.take x)))/\dZ (λx=>x=3) e C e B/\bd B f1 (bt s.aQ w).bU) ⟨F,H,kf⟩ ?_
   rintro x m3 aC μ A ⟨P,I,al⟩ am
   refine dit (λh5=>?_) λh5=>?_
   .let⟨k,E⟩:=dY ((bt s.aQ w).bU) x
    have aB:k<=9223372036854775807:=by
     rcases fP (1000<=k)with Z|Z
     .have:=bA (dH (M.pQ (aZ D) (aZ E) Z)).1;unfold ix at this;omega
     .omega
    have aA:(kK (iG s.aQ w) (nU ((bt s.aQ w).bU.take x))).length=s.aQ.length:=by rw[An];simp[iG]
    have ay:1000<=k->iH (kK (iG s.aQ w) (nU ((bt s.aQ w).bU.take x))) k:=λb=>Pw _ _ (λO K=>ai O (jE (nN.1 K).1) (nN.1 K).2) k (ai k (aZ E) b)
    refine⟨V,V,k,by simpa using al.D E,b,af I,(oE (P.kG (by rw[aA];omega)) aB).aO ?_⟩
    rintro _ m4 ⟨ao,G,rfl,N,au,Y⟩
    have K:dZ (λx=>x=3) e C e m4:=I.O (dZ.fV Y I.bI)
    have Q:=P.gX (dZ.fV (p:=λ_=>False) Y I.bI) id id
    have ac:=al.ext Y
    refine⟨ao,G,rfl,λae=>?_,λav=>am V _ ⟨?_,K,ac⟩⟩
    .have ah:=N.1 ae
     have ar:=au ae
     subst ar
     let⟨O,aL⟩:=dH ah
     have az:=bA O
     obtain⟨f4,j0,_⟩:=Q.dz O
     have aD:=Eo _ _ 999999 aw _ (aZ O)
     have aM:=rS ((bt s.aQ w).bU.take x)
     have aO:((bt s.aQ w).bU.take x).length<=3:=fj
     have W:eR ((bt (kK (iG s.aQ w) (nU ((bt s.aQ w).bU.take x))) k).ct+1)=(bt (kK (iG s.aQ w) (nU ((bt s.aQ w).bU.take x))) k).ct+1:=iC
     have aq:Int.toNat ((ix k:Nat):Int)=ix k:=V
     refine⟨b,af K,?_⟩
     rw[aq]
     refine⟨V,V,_,j0,V,V,Q.wr (o:=0) az cH,?_⟩
     rw[W]
     let⟨aa,L⟩:=Q.xG K.bI O ((bt (kK (iG s.aQ w) (nU ((bt s.aQ w).bU.take x))) k).ct+1)
     refine am V _ ⟨?_,K.O L,jV ac λR=>L.fL _ (lG ac R) (by rw[(kr R).1];decide)⟩
     have:nU [k]=[k]:=by simp[nU,ah.1]
     rw[bX E,tc,this,IA]
     exact aa
    .have L:¬1000<=k:=λb=>fb N av (ay b)
     have:nU [k]=[]:=by simp[nU];omega
     rw[bX E,tc,this,fH];exact Q
   .rw[eW V]at P
    let⟨K,t3⟩:=S.jK (I.aO λx A=>bu A) P
    refine⟨false,rfl,ag,e,b,?_,t3⟩
    rw[iO,aU z];exact K
def NB(Y:ST t e m j dv (IB d u c s cC b g) cC b g s.cC s.aQ q a r y h v){f:Instr}{aa aj:N}(ha:bd t aa f.aN)(ah:∀l∈f.aN,0<=l/\l<a.aT.length)(al:f.aN.length<=4)(h5:f.op=5->f.aN.length=1)(h2:f.op≠0->f.op≠5->f.aN.length=2)(ac:f.op≠0->∀l∈f.aN,mI (D a.aT l))
 (am:a.aT.length=a.bF.length/\a.cQ.length=a.bF.length/\a.bF.length<=2000)(hd:0<=f.br/\f.br<a.bF.length)(ao:s.cC.length<=1000000000):
 bJ dN 91 [vp j 0,vp g.bq (g.off+q.length*6),xv f aa aj] m λ_ p=>Gh t e m j d u c (if f.op=0 then{s with bn:=q++[a.cB f.br f.cE 0]}else if f.op=5 then{s with cC:=s.cC++[D a.aT (D f.aN 0)],bn:=q++[a.cB f.br (D a.aT (D f.aN 0)) 0]}else{s with bn:=q++[a.cB f.br (SS f.op (D a.aT (D f.aN 0)) (D a.aT (D f.aN 1))) 0]}) p:=by
 apply xr (j,0) (g.bq,g.off+q.length*6)
 simp -zeta only[dU]
 intro O
 obtain⟨ai,s1⟩:=pu O
 let⟨I,t1⟩:=Y.ext ai
 have T:CF e O [m.size]:=λab A=>by simp at A;subst A;exact⟨V,Y.eH.bI _ bW⟩
 clear_value O
 have X:=I.fp ⟨V,V,V⟩
 refine(zq X.g3 X.aT (ha.ext I.eH.da) ah V).aO ?_
 rintro _ o ⟨ws,rfl,ow,ag⟩
 let⟨w,t2⟩:=I.ext ag
 have H:=T.to t2
 have ap:(dO a f.aN).length=f.aN.length:=by simp[dO]
 have B:bd o ws (dO a f.aN):=by grind [bd.jM]
 have aq:=B.aS
 have af:=t1.O t2
 have S:∀{C:Nat},C<f.aN.length->(dO a f.aN)[C]? =some (D a.aT (D f.aN C)):=λ{C} hk=>by
  grind [jk,dO,WH]
 have ae:∀{M:E}(hx:J o M)(G:Int),bJ dN 92 [vp g.bq (g.off+q.length*6),vi f.br,vi G,vi 0] M λ_ p=>gL [m.size] M p/\Gh t e m j d u c {s with bn:=q++[a.cB f.br G 0]} p:=λhx G=>by
  let⟨SM,tM⟩:=w.ext hx;refine(vh SM hd.1 V hd.2 G 0).aO ?_;rintro _ p ⟨S',t'⟩;exact⟨t'.fR (H.to tM),e,cC,b,g,S'.eH,(af.O tM).O t'⟩
 refine⟨t2.fR T,ws,rfl,λn=>?_,λl=>⟨λn=>?_,λL=>?_⟩⟩
 .simp at n;rw[ba n];exact ae di _
 .simp at l n
  rw[aU l,ba n]
  have h1:=h5 n
  have an:(N.len cC)=s.cC.length:=by have:=w.eH.cC.aS;simp at this;omega
  refine⟨V,V,_,B.D (k:=0) (S V),cC,w.eH.bT.dz 7,?_⟩
  intro F
  have z:=px F
  have np:jt F o.size 0 [.i (D a.aT (D f.aN ((0:Nat):Int)))]:=(dJ.push o _ _).kV
  let⟨K,t3⟩:=w.ext z
  have U:=H.to t3
  clear_value F
  refine iJ.fy (f:=[.i 0]) (x:=.mk o.size 0 1 1) (new:=[.i (D a.aT (D f.aN 0))]) K.eH.cC K.eH.bI rfl np (by simp only[N.lJ];omega) λad P m4 q1 q2=>?_
  have ak:iJ ad m4 bE 1 2 P ((s.cC++[D a.aT (D f.aN 0)]).map Ce.i):=sp q1
  let⟨Z,Q⟩:=K.P6 q2 ak
  have W:=U.to Q
  refine⟨Q.fR U,Z.eH.pE (i:=7) bO,?_⟩
  intro m5
  let⟨S5,R⟩:=Z.lL 7 [.s P]
  refine⟨R.fR W,(vh S5 hd.1 V hd.2 (D a.aT (D f.aN 0)) 0).aO ?_⟩
  rintro _ m6 ⟨S6,t6⟩
  exact⟨t6.fR (W.to R),ad,P,b,g,S6.eH,(((af.O t3).O Q).O R).O t6⟩
 .simp at l L
  rw[aU l,aU L]
  have h1:=h2 l L
  refine⟨V,V,_,B.D (k:=0) (S V),V,V,_,B.D (k:=1) (S V),?_⟩
  refine(Sy (ac l _ (gS V V)) (ac l _ (gS V V)) o).aO ?_
  rintro _ F ⟨rfl,z⟩
  exact⟨z.fq (λab A=>(H ab A).1),_,rfl,ae z _⟩
end
section
variable{b1 b2 b3 t F:Nat}{C:cV}{g:Int}{q:dP}{k:E}{l:ab}
section
variable{z:E}{u:ag}{e:E}{v:Nat}{d y cC A j:N}{c:Int}{s:St}{b:ak}{a:bS}{B G h:N}{H:List ae}
def Sz(S:ST z u e v dv (IB d y c s cC A j) cC A j s.cC s.aQ b a B G h H){x:Instr}{o an:N}(X:bd z o x.aN)(ar:∀f∈x.aN,0<=f/\f<a.aT.length)(ap:1<=x.aN.length/\x.aN.length<=4)
 (ax:a.aT.length=a.bF.length/\a.cQ.length=a.bF.length/\a.bF.length<=2000)(ak:s.aQ.length<=1000000000)(ad:∀q∈a.bF,0<=q/\q<=999999)
 (al:iH s.aQ (D a.aT (D x.aN 0))){af:Nat->Int}(hI:iW s.aQ af){P:Int}(aA:a.pc=P+1):
 bJ dN 97 [vp v 0,vp j.bq (j.off+b.length*6),xv x o an] e λ_ k=>Gh z u e v d y c (xD s b {a with pc:=P} x) k:=by
 apply Ab (v,0) (j.bq,j.off+b.length*6)
 simp -zeta only[dU]
 intro m1
 obtain⟨am,s1⟩:=pu m1
 let⟨O,t1⟩:=S.ext am
 have B1:CF u m1 [e.size]:=λab F=>by simp at F;subst F;exact⟨V,S.eH.bI _ bW⟩
 clear_value m1
 have aB:B.len=a.aT.length:=by have:=S.jz.aT.aS;simp at this;omega
 have az:G.len=a.bF.length:=by have:=S.jz.bF.aS;simp at this;omega
 have aw:h.len=a.cQ.length:=by have:=S.jz.cQ.aS;simp at this;omega
 have aq:=X.aS
 have ao:=X.lZ
 have E:0<=D x.aN 0/\D x.aN 0<a.aT.length:=by grind [gS]
 have ga:∀{k},J z k->aR k o.bq (o.off+Int.toNat (0:Int)*1)=some (vi (D x.aN 0)):=λhx=>(X.ext hx).um V V
 obtain⟨_,_,_,g3,_,_⟩:=O.jz.kV
 generalize hw:D a.aT (D x.aN 0)=w at*
 refine⟨B,g3,V,V,_,ga O.eH.da,E.1,V,w,by rw[<-hw];exact(O.Es V).um E.1 E.2,(HI O al (x.op==17) hI ak).aO ?_⟩
 rintro _ m2 ⟨ab,rfl,F,p,I,L,t2⟩
 have Q:=B1.to t2
 have ag:(x.op==17)=true<->x.op=17:=bO
 rw[ag]at F
 have e1:Int.toNat (1:Int)=1:=rfl
 have e2:Int.toNat (o.len:Int)=o.len:=V
 have Y:∀{k},J z k->bd k (N.cut o 1 o.len 1) (x.aN.drop 1):=by grind [aav,bd.ext]
 have au:(N.cut o 1 o.len 1).len=x.aN.length -1:=by have:=(Y (J.cZ z)).aS;simp at this;omega
 have av:(x.aN.drop 1).length=x.aN.length -1:=bO
 have ac:∀f∈x.aN.drop 1,0<=f/\f<a.aT.length:=by grind [List.mem_of_mem_drop]
 rw[e1,e2]
 refine⟨t2.fR B1,ab,rfl,λaj=>?_,λai=>?_⟩
 .obtain⟨_,_,_,_,_,g5⟩:=L.jz.kV
  have hh:=F.1 aj
  refine⟨h,g5,V,V,_,ga L.eH.da,E.1,V,L.jz.cQ.Tp E.1 V,?_⟩
  intro m3
  let⟨S3,t3⟩:=L.Gc E.1 V w
  refine⟨t3.fR Q,V,V,V,?_⟩
  refine ik (n:=(x.aN.drop 1).length) V (λg k=>ST z p k v dv (IB d y c s cC I j) cC I j s.cC (vI s.aQ w (x.op==17)) b {a with cQ:=gT a.cQ (D x.aN 0) w,bF:=eY a.bF ((x.aN.drop 1).take g)} B G h H/\To u e p k/\CF p k [e.size]) ⟨by rw[List.take_zero];exact S3,(t1.O t2).O t3,(Q.to t3)⟩ ?_
  rintro g m4 ae μ hk ⟨l,M,K⟩ aa
  have Z:∀q∈eY a.bF ((x.aN.drop 1).take g),0<=q/\q<=1000010:=λq hq=>by
   have:=uT _ a.bF 999999 V ad q hq;have h3:((x.aN.drop 1).take g).length<=4:=cG;omega
  refine dit (λW=>?_) λW=>?_
  .let⟨f,r⟩:=dY (x.aN.drop 1) g
   have m:=ac f (aZ r)
   have t:f<(eY a.bF ((x.aN.drop 1).take g)).length:=by grind [sW]
   have ah:=JJ (i:=f) Z V
   have T:eR (D (eY a.bF ((x.aN.drop 1).take g)) f+1)=D (eY a.bF ((x.aN.drop 1).take g)) f+1:=by grind [dt]
   obtain⟨_,_,_,_,U,_⟩:=l.jz.kV
   refine⟨V,V,f,by simpa using(Y l.eH.da).D r,G,U,m.1,V,_,(l.Nf cG).um m.1 t,m.1,V,l.jz.bF.Tp m.1 t,?_⟩
   rw[T]
   intro m5
   let⟨R,C⟩:=l.tX m.1 t (D (eY a.bF ((x.aN.drop 1).take g)) f+1)
   refine⟨C.fR K,aa V _ ⟨?_,M.O C,K.to C⟩⟩
   rw[bX r,wC];exact R
  .rw[eW V]at l
   refine⟨p,cC,I,j,?_,M⟩
   have:xD s b {a with pc:=P} x={s with aQ:=vI s.aQ w (x.op==17),bn:=b++[{a with cQ:=gT a.cQ (D x.aN 0) w,bF:=eY a.bF (x.aN.drop 1)}]}:=by
    grind [xD,vI]
   grind [ST.eH]
 .have ay:¬((bt s.aQ w).ct=1/\x.op=17):=λhh=>by have:=F.2 hh;rw[ai]at this;simp at this
  refine⟨V,V,V,?_⟩
  refine ik (n:=(x.aN.drop 1).length) V (λg k=>ST z p k v dv (IB d y c s cC I j) cC I j s.cC (vI s.aQ w (x.op==17)) b {a with bF:=eY a.bF ((x.aN.drop 1).take g)} B G h H/\To u e p k/\CF p k [e.size]) ⟨by simpa[eY]using L,t1.O t2,Q⟩ ?_
  rintro g m4 ae μ hk ⟨l,M,K⟩ aa
  have Z:∀q∈eY a.bF ((x.aN.drop 1).take g),0<=q/\q<=1000010:=λq hq=>by
   have:=uT _ a.bF 999999 V ad q hq;have h3:((x.aN.drop 1).take g).length<=4:=cG;omega
  refine dit (λW=>?_) λW=>?_
  .let⟨f,r⟩:=dY (x.aN.drop 1) g
   have m:=ac f (aZ r)
   have t:f<(eY a.bF ((x.aN.drop 1).take g)).length:=by grind [sW]
   have ah:=JJ (i:=f) Z V
   have T:eR (D (eY a.bF ((x.aN.drop 1).take g)) f+1)=D (eY a.bF ((x.aN.drop 1).take g)) f+1:=by grind [dt]
   obtain⟨_,_,_,_,U,_⟩:=l.jz.kV
   refine⟨V,V,f,by simpa using(Y l.eH.da).D r,G,U,m.1,V,_,(l.Nf cG).um m.1 t,m.1,V,l.jz.bF.Tp m.1 t,?_⟩
   rw[T]
   intro m5
   let⟨R,C⟩:=l.tX m.1 t (D (eY a.bF ((x.aN.drop 1).take g)) f+1)
   refine⟨C.fR K,aa V _ ⟨?_,M.O C,K.to C⟩⟩
   rw[bX r,wC];exact R
  .rw[eW V]at l
   refine⟨p,cC,I,j,?_,M⟩
   have:xD s b {a with pc:=P} x={s with aQ:=vI s.aQ w (x.op==17),bn:=b++[{a with bF:=eY a.bF (x.aN.drop 1)}]}:=by
    grind [xD,vI]
   grind [ST.eH]
def sk.VZ{u:ag}{e:E}:sk u e .nil []:=⟨[],iJ.jM (jo.gD e e _ _) (λa=>absurd rfl a),rfl,bO,bO⟩
def Lq(S:ST z u e v dv (IB d y c s cC A j) cC A j s.cC s.aQ b a B G h H)(ad:b.length<=100000)(w:Int)(R:∀g,b.getLast?=some g->0<=a.br/\a.br<g.aT.length/\a.br<g.bF.length):
 bJ dN 102 [vp v 0,vi w] e λ_ k=>Gh z u e v d y c (match b.getLast? with|none=>{s with dT:=0,je:=w,bn:=[]}|some g=>{s with bn:=b.dropLast++[g.cB a.br w (gE w)]}) k:=by
 apply wH (v,0)
 simp -zeta only
 have x:=S.jz.DT
 have aa:=S.jz.rE.le
 have I:eR ((j.len:Int) -1)=(b.length:Int):=by grind [dt]
 have J:Int.toNat (b.length:Int)=b.length:=V
 have p:aR e v 9=some j.v:=S.eH.bT.dz 9
 obtain⟨_,_,g2,_,_,_⟩:=S.jz.kV
 refine⟨j,p,j,p,?_⟩
 rw[I,J]
 refine⟨V,V,a.br,g2,j,p,V,V,V,S.eH.pE (i:=9) bO,?_⟩
 intro C
 let⟨o,t2⟩:=S.eH.lL 9 [.s (j.cut 0 b.length 6)]
 obtain⟨f,_⟩:=o.mw (dZ.cZ _ o.bI) o.bn.pop
 have ab:(j.cut 0 b.length 6).len=b.length:=by
  cases j with
  |nil=>simp at x
  |Dx n D sp=>simp at x
  |mk n D l c=>simp[N.cut]
 refine⟨λM=>?_,λM=>?_⟩
 .have F:b=[]:=cG
  subst F
  refine⟨f.pE (i:=3) (by simp[mg]),?_⟩
  intro X
  let⟨n,t3⟩:=f.lL 3 [.i 0]
  refine⟨n.pE (i:=4) (by simp[mg]),?_⟩
  intro Y
  let⟨r,q⟩:=n.lL 4 [.i w]
  refine⟨r.pE (i:=9) (by simp[mg]),?_⟩
  intro K
  let⟨t,L⟩:=r.lL 9 [.s .nil]
  obtain⟨E,_⟩:=t.mw (dZ.cZ _ t.bI) (sk.VZ (u:=u) (e:=K))
  exact⟨u,cC,A,.nil,E,((t2.O t3).O q).O L⟩
 .have W:b≠[]:=cG
  have ae:b.length≠0:=by grind [List.length_eq_zero_iff]
  obtain⟨g,t⟩:∃g,b.getLast?=some g:=⟨_,rf W⟩
  let⟨O,P,Q⟩:=R g t
  rw[t]
  simp only[]
  have U:b=b.dropLast++[g]:=by
   grind [List.getLast?_eq_some_getLast,List.dropLast_concat_getLast]
  have n:zP z u C v dv (IB d y c s cC A (j.cut 0 b.length 6)) cC A (j.cut 0 b.length 6) s.cC s.aQ (b.dropLast++[g]):=
   ⟨f.da,f.ni,f.bI,f.bT,f.Yp,f.cC,f.aQ,by rw[<-U];exact f.bn⟩
  let⟨r',D,h',Z,T⟩:=n.bn.jz
  have ac:b.dropLast.length=b.length -1:=bO
  have K:eR ((b.length:Int) -1)=((b.length -1:Nat):Int):=by grind [dt]
  have L:Int.toNat ((b.length -1:Nat):Int)=b.dropLast.length:=V
  refine⟨j.cut 0 b.length 6,n.bT.dz 9,?_⟩
  rw[K,L]
  refine⟨V,V,(qy w C).aO ?_⟩
  rintro _ X ⟨rfl,r⟩
  let⟨E,t3⟩:=(ST.mk n T).ext r
  refine⟨_,rfl,r.db (n.bT.dz 9),(vh E O P Q w (gE w)).aO ?_⟩
  rintro _ Y ⟨F,q⟩
  exact⟨u,cC,A,_,F.eH,(t2.O t3).O q⟩
end
def adU{e M:E}(f:J e M){nb:Nat}(j:e.size<=nb)(n:nb<M.size)(t:Nat){d:ae}
 (a:(b1=M.size\/b1=M.size+1\/b1=M.size+2)/\(b2=M.size\/b2=M.size+1\/b2=M.size+2)/\(b3=M.size\/b3=M.size+1\/b3=M.size+2)/\b1≠b2/\b1≠b3/\b2≠b3):
 tA e (aV (((M.push (.cells (de (ng [.i (0:Int)] t)) 3)).push (.cells (de (ng [.i (0:Int)] t)) 3)).push (.cells (de (ng [.i (0:Int)] t)) 3)) nb 0 d) b1 b2 b3 t (eQ t) (eQ t) (eQ t):=by
 rw[sP]
 generalize g:M.push (.cells (de ((eQ t).map Ce.i)) 3)=m2
 generalize h:m2.push (.cells (de ((eQ t).map Ce.i)) 3)=m3
 generalize i:m3.push (.cells (de ((eQ t).map Ce.i)) 3)=m4
 have r:m2.size=M.size+1:=cG
 have s:m3.size=M.size+2:=cG
 have u:m4.size=M.size+3:=cG
 have k:J M m2:=g▸J.push _ _
 have l:J m2 m3:=h▸J.push _ _
 have m:J m3 m4:=i▸J.push _ _
 have o:dJ m4 M.size bE ((eQ t).map Ce.i):=by grind [dJ.push,dJ,Array.size,eQ,List.map,dJ.ext]
 have p:dJ m4 m2.size bE ((eQ t).map Ce.i):=by grind [dJ.push,dJ,Array.size,eQ,List.map,dJ.ext]
 have q:dJ m4 m3.size bE ((eQ t).map Ce.i):=by grind [dJ.push]
 have c:∀b,(b=M.size\/b=M.size+1\/b=M.size+2)->dJ (aV m4 nb 0 d) b bE ((eQ t).map Ce.i):=λb a=>by
  grind [dJ,eQ,List.map,dJ.congr,cg]
 exact⟨(f.O ((k.O l).O m)).aV j _ _,by have:=f.aP;rw[bD];omega,c _ a.1,c _ a.2.1,c _ a.2.2.1,by simp[lO]⟩
def Ae{e:E}{d y:N}(f:iF e d y C)(j:0<=g)(h:C.cO[g.toNat]? =some q)(a:0<=q.aT/\q.aT<=2000)(c:Int):
 bJ dN 49 [.agg #[d.v,y.v],vi g,vi c] e λv k=>∃b1 b2 b3,v=.agg #[vi g,vi 0,vi c,N.v (.mk b1 0 q.aT.toNat q.aT.toNat),N.v (.mk b2 0 q.aT.toNat q.aT.toNat),N.v (.mk b3 0 q.aT.toNat q.aT.toNat)]/\
  tA e k b1 b2 b3 q.aT.toNat (eQ q.aT.toNat) (eQ q.aT.toNat) (eQ q.aT.toNat):=by
 apply Gs
 simp -zeta only[dU]
 intro m b
 have i:J e b:=((J.cZ e).cw _).cw _
 have z:=pz m
 have A:b.size=e.size+2:=cG
 have t:=f.cO.aS
 have s:=bA h
 clear_value b
 obtain⟨p,u,r,_,_,_,_,_,_,l,_⟩:=(f.ext i).cO.D h
 refine⟨j,V,q.aT,l,⟨a.1,dR _,V,V,?_⟩,⟨a.1,dR _,V,V,?_⟩,⟨a.1,dR _,V,V,?_⟩⟩
 all_goals
  intro n
  refine⟨⟨a.1,dR _,V,V,?_⟩,⟨a.1,dR _,V,V,?_⟩⟩
  all_goals
   intro o
   refine⟨a.1,dR _,V,V,?_⟩
   intro w x
   have B:=pz n
   have D:o.size=b.size+2:=cG
   exact⟨_,_,_,rfl,adU i V V q.aT.toNat V⟩
def tA.IE{e:E}{aT bF cQ:ab}(N:tA e k b1 b2 b3 t aT bF cQ)(b:F<t)(v:Int):iQ k b1 F 1/\tA e (aV k b1 F [.i v]) b1 b2 b3 t (aT.set F v) bF cQ:=by
 have a:=N.lo;refine⟨N.kr.iQ cG,N.ext.aV a.1 _ _,by rw[bD];exact a,?_,N.ko.congr (cg _ _ _ _ V),N.kh.congr (cg _ _ _ _ V),by simp[N.aS]⟩;have:=dJ.aV (m:=k) (o:=F) (r:=[.i v]) N.kr;grind [Kl]
def tA.tX{e:E}{aT bF cQ:ab}(N:tA e k b1 b2 b3 t aT bF cQ)(b:F<t)(v:Int):iQ k b2 F 1/\tA e (aV k b2 F [.i v]) b1 b2 b3 t aT (bF.set F v) cQ:=by
 have a:=N.lo;refine⟨N.ko.iQ cG,N.ext.aV a.2.1 _ _,by rw[bD];exact a,N.kr.congr (cg _ _ _ _ V),?_,N.kh.congr (cg _ _ _ _ V),by simp[N.aS]⟩;have:=dJ.aV (m:=k) (o:=F) (r:=[.i v]) N.ko;grind [Kl]
def Cs(cR:ab):∀(l B:ab)(k:Nat),fI cR k (l++B)=fI cR k l++fI cR (k+l.length) B
 |[],B,k=>by simp[fI]
 |a::l,B,k=>by
  have:=Cs cR l B (k+1);grind [fI,List.length_cons,List.length]
theorem QI{k:Nat}(h:k<t):eQ (t -k)=0::eQ (t -(k+1)):=by
 have:t -k=(t -(k+1))+1:=V;rw[this];rfl
theorem abu(h:l.length<t)(v:Int):(l++eQ (t -l.length)).set l.length v=(l++[v])++eQ (t -(l.length+1)):=by
 grind [QI]
theorem adE(h:l.length<t):l++eQ (t -l.length)=(l++[0])++eQ (t -(l.length+1)):=by
 grind [QI]
variable{z:E}{u:ag}{e:E}{v:Nat}{d y cC A j:N}{c:Int}{s:St}{b:ak}{a:bS}{B G h:N}{H:List ae}
def JZ(T:ST z u e v dv (IB d y c s cC A j) cC A j s.cC s.aQ b a B G h H)(aw:iF z d y C)(ak:0<=g)(hq:C.cO[g.toNat]? =some q)(ay:0<=q.aT/\q.aT<=2000){Z:N}{o:ab}(hw:bd e Z o)(aT:o≠[]->u Z.bq=0)(aV:(o.length:Int)<=q.aT)(S:Instr)(ac aA:N)
 (aI:b.length<=10000)(aG:0<=s.df/\s.df<=100000):
 bJ dN 100 [vp v 0,vi g,Z.v,xv S ac aA] e λ_ k=>Gh z u e v d y c {s with df:=s.df+1,bn:=if S.op=24 then b++[cq C g a.br o]else b++[a,cq C g S.br o]} k:=by
 apply Aa (v,0)
 simp -zeta only[dU]
 intro X
 obtain⟨az,s1⟩:=pu X
 let⟨S1,t1⟩:=T.ext az
 have B1:CF u X [e.size]:=λr w=>by simp at w;subst w;exact⟨V,T.eH.bI _ bW⟩
 clear_value X
 have aH:=T.jz.DT
 have aF:=T.jz.rE.le
 have e0:eR (s.df+1)=s.df+1:=by grind [dt]
 have ap:eR ((j.len:Int) -1)=(b.length:Int):=by grind [dt]
 have e2:Int.toNat (b.length:Int)=b.length:=V
 refine⟨s.df,S1.eH.bT.dz 5,S1.eH.pE (i:=5) bO,?_⟩
 rw[e0]
 intro Y
 let⟨Q,t2⟩:=S1.lL 5 [.i (s.df+1)]
 replace Q:ST z u Y v dv (IB d y c {s with df:=s.df+1} cC A j) cC A j s.cC s.aQ b a B G h H:=Q
 replace t2:To u X u Y:=t2
 have B2:=B1.to t2
 have g9:aR Y v 9=some j.v:=Q.eH.bT.dz 9
 obtain⟨_,_,g2,_,_,_⟩:=Q.jz.kV
 refine⟨t2.fR B1,j,g9,?_⟩
 rw[ap,e2]
 clear_value Y
 have aD:=t1.O t2
 refine⟨λF k=>∃I U,zP z u k v dv (IB d y c {s with df:=s.df+1} cC A U) cC A U s.cC s.aQ I/\To u e u k/\CF u k [e.size]/\I.length<=10001/\(if S.op=24 then b++[cq C g a.br o]else b++[a,cq C g S.br o])=I++[cq C g F o],⟨λad=>?_,λad=>?_⟩,?_⟩
 .simp at ad
  refine⟨j,g9,V,V,a.br,g2,j,g9,V,V,V,Q.eH.pE (i:=9) bO,?_⟩
  intro L
  let⟨t,t3⟩:=Q.eH.lL 9 [.s (j.cut 0 b.length 6)]
  obtain⟨m,_⟩:=t.mw (dZ.cZ _ t.bI) t.bn.pop
  refine⟨t3.fR B2,b,j.cut 0 b.length 6,m,aD.O t3,B2.to t3,V,?_⟩
  rw[ba ad]
 .grind [ST.eH]
 rintro F L ⟨I,U,t,t3,B3,hX,au⟩
 rw[au]
 have aS:dy C g=q:=by grind [dy]
 have ag:=aw.ext t.da
 refine⟨d,t.bT.dz 0,y,t.bT.dz 1,(Ae ag ak hq ay F).aO ?_⟩
 rintro _ O ⟨b1,b2,b3,rfl,aa⟩
 have aN:=aa.lo
 have ar:∀r∈[e.size],r<L.size:=λr w=>(B3 r w).1
 have aP:e.size<L.size:=cG
 refine⟨aa.ext.fq ar,_,_,_,_,_,_,rfl,?_⟩
 intro m5 m6
 have aq:J O m6:=by grind [J.cZ,J.cw,J.aV]
 have s6:m6.size=O.size+1:=by grind [bD]
 have N6:=aa.Lk aq
 clear_value m6
 have aU:=hw.aS
 have iw:∀{M},J L M->bd M Z o:=by grind [jV,dZ.fL,lG,bd.ext]
 obtain⟨pa,pl,pc,_,av,_,_,k1,_,_,_⟩:=ag.cO.D hq
 have aO:=bA hq
 have aQ:=ag.cO.aS
 have aM:∀(m:Nat),(q.cR.any λD=>D==(m:Int))=true<->(m:Int)∈q.cR:=cG
 simp -zeta only[N.mP,N.Bo,N.lJ,fB]
 refine ik (n:=o.length) V (λm k=>tA L k b1 b2 b3 q.aT.toNat (o.take m++eQ (q.aT.toNat -m)) (fI q.cR 0 (o.take m)++eQ (q.aT.toNat -m)) (eQ q.aT.toNat)/\O.size<k.size) ⟨by simpa[fI]using N6,V⟩ ?_
 rintro m P aE μ hk ⟨R,s7⟩ aC
 have wL:∀{ma mc:E},(∀r,r=O.size\/r=e.size->mc[r]? =ma[r]?)->gL [O.size,e.size] ma mc:=λhh r w=>hh r cG
 have tk:(o.take m).length=m:=cG
 have aX:(fI q.cR 0 (o.take m)).length=m:=by rw[lU,tk]
 refine dit (λh1=>?_) λh1=>?_
 .let⟨D,hy⟩:=dY o m
  have ek:Int.toNat (m:Int)*1=m:=V
  have ai:m<q.aT.toNat:=V
  let⟨w8,K⟩:=R.IE ai D
  have er:(o.take m++eQ (q.aT.toNat -m)).set m D=o.take (m+1)++eQ (q.aT.toNat -(m+1)):=by
   grind [abu,List.take,bX]
  rw[er]at K
  have eo:fI q.cR 0 (o.take (m+1))=fI q.cR 0 (o.take m)++[if q.cR.any (λD=>D==(m:Int))then 0 else gE D]:=by
   rw[bX hy,Cs,tk];simp[fI]
  refine⟨V,V,D,by simpa using(iw R.ext).D hy,V,V,?_⟩
  rw[ek]
  refine⟨w8,?_⟩
  intro m8
  have s8:m8.size=P.size:=bD _ _ _ _
  refine⟨wL λr w=>cg _ _ _ _ V,?_⟩
  replace K:tA L m8 b1 b2 b3 q.aT.toNat (o.take (m+1)++eQ (q.aT.toNat -(m+1))) (fI q.cR 0 (o.take m)++eQ (q.aT.toNat -m)) (eQ q.aT.toNat):=K
  clear_value m8
  refine⟨y,K.ext.aR (t.bT.dz 1),ak,V,pl,K.ext.aR k1,(lp (av.ext K.ext) _).aO ?_⟩
  rintro _ m9 ⟨r,rfl,w,af⟩
  have N9:=K.Lk af
  have s9:=af.aP
  refine⟨af.fq cG,r,rfl,λao=>?_,λan=>?_⟩
  .refine(qy D m9).aO ?_
   rintro _ ax ⟨rfl,W⟩
   have aB:=W.aP
   let⟨am,ah⟩:=(N9.Lk W).tX ai (gE D)
   have aj:(fI q.cR 0 (o.take m)++eQ (q.aT.toNat -m)).set m (gE D)=fI q.cR 0 (o.take (m+1))++eQ (q.aT.toNat -(m+1)):=by
    grind [abu,fI,List.take,gE]
   rw[aj]at ah
   refine⟨W.fq cG,_,rfl,bB (W.bC O.size V) 4,V,V,am,?_⟩
   intro al
   refine⟨wL λr w=>cg _ _ _ _ V,aC V _ ⟨ah,by simp only[al,bD];omega⟩⟩
  grind [adE,fI,List.take]
 .have ax:m=o.length:=V
  subst ax
  rw[fx]at R
  have hc:dZ (λ_=>False) u L (pY u b1 b2 b3 I.length) P:=R.gX t.bI
  let⟨a1,a2,a3⟩:=R.rE (q:=u) (w:=I.length)
  let⟨D,t7⟩:=t.jK (hc.aO λ_=>False.elim) (t.aQ.gX hc id id)
  have B7:CF (pY u b1 b2 b3 I.length) P [O.size,e.size]:=λr w=>by
   simp at w;refine⟨V,?_⟩;unfold pY;rw[fO V,fO V,fO V];rcases w with rfl|rfl
   .exact t.bI _ V
   .exact(B3 _ bO).2
  refine⟨U,D.bT.dz 9,?_⟩
  intro K
  have af:=px K
  have np:jt K P.size 0 [.i g,.i 0,.i F,.s (.mk b1 0 q.aT.toNat q.aT.toNat),.s (.mk b2 0 q.aT.toNat q.aT.toNat),.s (.mk b3 0 q.aT.toNat q.aT.toNat)]:=(dJ.push P _ _).kV
  let⟨W,am⟩:=D.ext af
  have ai:=B7.to am
  clear_value K
  have ch:=λ{m:Nat}{s:N}{l:ae}(ac:iJ (pY u b1 b2 b3 I.length) P bE 1 m s l)=>ac.gX (dZ.fV (p:=λ_=>False) af D.bI) id
  have aL:(cq C g F o).aT=o++eQ (q.aT.toNat -o.length):=by grind [cq]
  have aK:(cq C g F o).bF=fI q.cR 0 o++eQ (q.aT.toNat -o.length):=by grind [cq]
  have aJ:(cq C g F o).cQ=eQ q.aT.toNat:=by grind [cq]
  refine⟨af.db (D.bT.dz 9),sk.push W.bn W.bI (x:=.mk P.size 0 1 1) rfl (a:=cq C g F o) np cG cG cG V λal qs aB q1 q2=>?_⟩
  have ah:To _ K al aB:=q2.aO λm hk=>V
  let⟨aj,aY⟩:=W.mw (q2.aO λm hk=>V) q1
  refine⟨ah.fR ai,aj.pE (i:=9) bO,?_⟩
  intro aW
  let⟨ao,an⟩:=aj.lL 9 [.s qs]
  exact⟨an.fR (ai.to ah),al,cC,A,qs,ao,(((t3.O t7).O am).O ah).O an⟩
end
section
def QB(aT:ab):∀(a bF:ab)(n:Int),(∀q∈bF,n<=q)->∀q∈bV aT bF a,n -a.length<=q
 |[],bF,n,h,q,b=>by have:=h q b;simp;omega
 |r::a,bF,n,h,q,b=>by
  have j:∀d,(∀q∈d,n -1<=q)->q∈bV aT d a->n -(r::a).length<=q:=λd f c=>by
   have:=QB aT a d (n -1) f q c;grind [List.length_cons]
  rw[bV]at b;refine j _ (λk c=>?_) b;split at c
  .rcases tQ c with g|g
   .rcases eJ r.toNat bF.length with e|e
    .let⟨y,i⟩:=jk e;have:=h y (aZ i);grind [OQ]
    grind [gT,D,List.set_eq_of_length_le]
   grind
  .grind
variable{q:E}{g:ag}{m:E}{k:Nat}{d p cC j c:N}{a:St}{b:ak}{f:bS}{r t h:N}{u:List ae}
def VV{y:cV}{v:Instr}(C:we y a b f v){bF:ab}(aE:bF=bV f.aT f.bF (bY y v))(hM:iR y a f v bF)
 (ac:ST q g m k dv (IB d p (cJ y) a cC j c) cC j c a.cC a.aQ b f r t h u)(aD:iF q d p y){af az:N}(ha:bd q af v.aN)(hj:bd q az v.fQ)(cm:a.aQ.length<=900000000)(ct:a.cC.length<=900000000):
 bJ dN 51 [vp k 0,vp c.bq (c.off+b.length*6),xv v af az] m λ_ R=>Gh q g m k d p (cJ y) (dI y a b f v bF) R:=by
 apply CU (k,0) (c.bq,c.off+b.length*6)
 simp -zeta only[dU]
 intro m1
 obtain⟨b7,s1⟩:=pu m1
 let⟨S1,t1⟩:=ac.ext b7
 have B1:CF g m1 [m.size]:=λQ hb=>by simp at hb;subst hb;exact⟨V,ac.eH.bI _ bW⟩
 clear_value m1
 have cn:=C.SD
 have cp:bF.length=f.bF.length:=by grind [mh]
 have cx:r.len=f.aT.length:=by have:=ac.jz.aT.aS;simp at this;omega
 have co:t.len=f.bF.length:=by have:=ac.jz.bF.aS;simp at this;omega
 have cf:=ha.aS
 have aM:v.aN.length<=4:=C.oC.1
 have cu:0<=f.pc/\f.pc<=100000:=by
  have cv:=C.F.pc;obtain⟨pq,_,cw,hP,_,_⟩:=C.I;grind [ny.aS]
 have e4:eR (f.pc+1)=f.pc+1:=by grind [dt]
 have ck:b.length<=1000:=by
  grind [we.ok,eM.mQ,eM.df,eM.dG,we.fr]
 refine(zY (aD.ext S1.eH.da) (S1.eH.bT.dz 1) C.jr (ha.ext S1.eH.da) V C.oC.2.2.2.1).aO ?_
 rintro _ m2 ⟨ts,lt,rfl,bs,_,aJ,br,_⟩
 let⟨S2,t2⟩:=S1.ext aJ
 have B2:=B1.to t2
 have cz:=MF y v
 have aS:=bs.aS
 have b5:bY y v≠[]->g ts.bq=0:=λap=>by
  rcases br with w|w|w
  .subst w;simp at aS;exact absurd (cr.1 aS.symm) ap
  .rw[w];refine ac.eH.ni _ (lG ha λh0=>?_);let⟨S,B⟩:=aad _ ap;have:=qW B;grind
  .grind [ST.eH,zP.bI]
 refine⟨t2.fR B1,ts,lt,rfl,?_⟩
 refine ik (n:=(bY y v).length) V (λO R=>ST q g R k dv (IB d p (cJ y) a cC j c) cC j c a.cC a.aQ b {f with bF:=bV f.aT f.bF ((bY y v).take O)} r t h u/\To g m2 g R) ⟨S2,dZ.cZ _ S2.eH.bI⟩ ?_
 rintro O m3 bG μ hk ⟨S3,t3⟩ ca
 have B3:=B2.to t3
 have bT:(bV f.aT f.bF ((bY y v).take O)).length=f.bF.length:=mh _ _ _
 refine dit (λh1=>?_) λh1=>?_
 .let⟨S,B⟩:=dY (bY y v) O
  have A:=C.Ox S (aZ B)
  obtain⟨_,_,_,G,I,_⟩:=S3.jz.kV
  have K:bd m3 ts (bY y v):=by grind [jV,dZ.fL,lG]
  have M:bV f.aT f.bF ((bY y v).take (O+1))=if 1000<=D f.aT S then gT (bV f.aT f.bF ((bY y v).take O)) S (D (bV f.aT f.bF ((bY y v).take O)) S -1)else bV f.aT f.bF ((bY y v).take O):=by
   rw[bX B,zc];rfl
  refine⟨V,V,S,by simpa using K.D B,r,G,A.1,V,_,(S3.Es cG).um A.1 A.2,λh5=>?_,λh5=>?_⟩
  .simp only[bh]at h5
   have F:S<(bV f.aT f.bF ((bY y v).take O)).length:=V
   have P: -4<=D (bV f.aT f.bF ((bY y v).take O)) S/\D (bV f.aT f.bF ((bY y v).take O)) S<=999999:=by
    let⟨qq,ax,a_⟩:=oa _ _ _ _ (jG A.1 F);have h7:=C.SL qq (aZ ax);have h8:=QB f.aT ((bY y v).take O) f.bF 0 (λal hq=>(C.SL al hq).1) _ (gS A.1 F);have L:((bY y v).take O).length<=4:=cG;omega
   have e5:eR (D (bV f.aT f.bF ((bY y v).take O)) S -1)=D (bV f.aT f.bF ((bY y v).take O)) S -1:=by grind [dt]
   refine⟨t,I,A.1,V,_,(S3.Nf cG).um A.1 F,A.1,V,S3.jz.bF.Tp A.1 F,?_⟩
   rw[e5]
   intro H
   let⟨z,t4⟩:=S3.tX A.1 F (D (bV f.aT f.bF ((bY y v).take O)) S -1)
   constructor<;>grind [dZ.fR,dZ.O]
  grind [ge_iff_le,decide_eq_false_iff_not]
 rw[eW V,<-aE]at S3
 clear ca bT hk h1 b5 bs br aS
 obtain⟨_,g1,_,_,_,_⟩:=S3.jz.kV
 refine⟨f.pc,g1,S3.jz.aaX,?_⟩
 rw[e4]
 intro H
 let⟨z,t4⟩:=S3.RP (f.pc+1)
 have L:CF g H [m.size]:=B3.to t4
 have bw:gL [m.size] m3 H:=t4.fR B3
 have Y:To g m g H:=by grind [dZ.O]
 clear t4
 replace z:ST q g H k dv (IB d p (cJ y) a cC j c) cC j c a.cC a.aQ b {f with bF:=bF,pc:=f.pc+1} r t h u:=z
 refine⟨bw,?_⟩
 clear bw g1 S3 t3 B3 t2 B2 S2 aJ bG μ
 clear_value H
 have U:∀{M M':E},gL [m.size] M M'->∀ak,aR M' m.size ak=aR M m.size ak:=λh ak=>bB (h _ bO) ak
 have hd:=C.br
 have aO:f.aT.length=bF.length/\f.cQ.length=bF.length/\bF.length<=2000:=V
 have an:1<=v.aN.length->0<=D v.aN 0/\D v.aN 0<f.aT.length:=λh1=>C.arg _ (gS V V)
 have ga:∀{R},J q R->1<=v.aN.length->aR R af.bq (af.off+Int.toNat (0:Int)*1)=some (vi (D v.aN 0)):=λhx h1=>(ha.ext hx).um V V
 have gr:∀{g m bx cC j c lo am t h u own' pc'},ST q g m k dv bx cC j c lo am b {f with bF:=own',pc:=pc'} r t h u->∀{ak:Int},0<=ak->ak<f.aT.length->aR m r.bq (r.off+ak.toNat*1)=some (vi (D f.aT ak)):=λac ak h0 h1=>(ac.Es cG).um h0 h1
 have ad:∀{g m bx cC j c lo am t h u own' pc'},ST q g m k dv bx cC j c lo am b {f with bF:=own',pc:=pc'} r t h u->aR m c.bq (c.off+b.length*6+3)=some r.v:=λac=>ac.jz.kV.2.2.2.1
 have b9:∀r',r'∈v.aN->D f.aT r'<1000->mI (D f.aT r'):=λr' b2 ay=>by
  have bo:=C.arg r' b2;rcases C.F.YG _ (gS bo.1 bo.2)with h5|h5
  .exact h5
  .omega
 obtain⟨pq,_,_,_,_,hI⟩:=C.I
 have aj:=hI.op
 clear hI
 have aW:∀{aT:ag}{bp:N}{am:ah}{M:E}(SM:ST q aT M k dv (IB d p (cJ y) {a with aQ:=am} cC bp c) cC bp c a.cC am b {f with bF:=bF,pc:=f.pc+1} r t h u)(tM:To g m aT M)(BM:CF aT M [m.size])(F aG:Int)(s':St),s'={a with aQ:=am,bn:=b++[bS.cB {f with bF:=bF,pc:=f.pc+1} v.br F aG]}->
  bJ dN 92 [vp c.bq (c.off+b.length*6),vi v.br,vi F,vi aG] M λ_ R=>gL [m.size] M R/\Gh q g m k d p (cJ y) s' R:=λSM tM BM F aG s' w=>by
  refine(vh SM hd.1 cG cG F aG).aO ?_
  rintro _ R ⟨S',t'⟩
  exact⟨t'.fR BM,_,cC,_,c,by rw[w];exact S'.eH,tM.O t'⟩
 have aI:∀{M:E}(hx:J H M)(Z:Int)(s':St),s'={a with bn:=b++[{f with bF:=bF,pc:=Z}]}->
  iQ M c.bq (c.off+b.length*6+1) 1/\gL [m.size] M (aV M c.bq (c.off+b.length*6+1) [.i Z])/\Gh q g m k d p (cJ y) s' (aV M c.bq (c.off+b.length*6+1) [.i Z]):=λhx Z s' w=>by
  let⟨SM,tM⟩:=z.ext hx
  let⟨S',t'⟩:=SM.RP Z
  exact⟨SM.jz.aaX,t'.fR (L.to tM),g,cC,j,c,by rw[w];exact S'.eH,(Y.O tM).O t'⟩
 refine⟨λw=>?_,λe0=>?_⟩
 .simp only[eD,bP]at w
  refine(NB z ha C.arg aM (λe5=>C.oC.2.1 (bu e5)) (λe0 e5=>C.oC.2.2.1 V) (λe0 S B=>b9 S B (hM.nL V S B)) aO ⟨hd.1,by show v.br<bF.length;omega⟩ V).aO ?_
  rintro _ X ⟨ar,aA,aq,au,L5,B⟩
  refine⟨B.fR L,ar,aA,aq,au,?_,Y.O B⟩
  have:dI y a b f v bF=(if v.op=0 then{a with bn:=b++[bS.cB {f with bF:=bF,pc:=f.pc+1} v.br v.cE 0]}else if v.op=5 then{a with cC:=a.cC++[D f.aT (D v.aN 0)],bn:=b++[bS.cB {f with bF:=bF,pc:=f.pc+1} v.br (D f.aT (D v.aN 0)) 0]}else{a with bn:=b++[bS.cB {f with bF:=bF,pc:=f.pc+1} v.br (SS v.op (D f.aT (D v.aN 0)) (D f.aT (D v.aN 1))) 0]}):=by
   unfold dI;simp only[];by_cases A:v.op=0
   .grind
   rw[aU A,aU A];by_cases G:v.op=5
   .rw[aU V,ba G,ba G]
   .grind
  rw[this];exact L5
 simp only[cU,a8]at e0
 have a7:¬(v.op=1\/v.op=2\/v.op=3\/v.op=4):=V
 have b_:∀F∈f.cQ,F≠0->1000<=F/\ix F<a.aQ.length:=λF hw ap=>by
  obtain⟨h1,dd,bN,_⟩:=C.Ps F hw ap;exact⟨h1,bA bN⟩
 refine⟨λw=>?_,λe6=>?_⟩
 .simp only[bP]at w
  have W:=C.oC.2.2.2.2.1 w
  refine(J4 z ha C.arg aM aO ⟨W.1,W.2.1⟩ V b_).aO ?_
  rintro _ X ⟨ar,aq,A,P,rfl,T,B,er,eo,ep,ec⟩
  refine⟨B.fR L,_,rfl,U (B.fR L) 1,(vh T hd.1 cG cG (1000+A) 1).aO ?_⟩
  rintro _ K ⟨G,I⟩
  refine⟨I.fR (L.to B),ar,cC,aq,c,?_,(Y.O B).O I⟩
  have h7:=ec f.pc
  have aa:P.pc=f.pc+1:=ep
  have h8:({P with pc:=f.pc+1}:bS)=P:=by rw[<-aa]
  rw[h8]at h7
  have:dI y a b f v bF=rm a b {f with bF:=bF} v v.cE:=by
   unfold dI rm;simp only[];rw[aU V,aU a7,aU V,ba w];rfl
  grind [rm,jB,dO,bS.cB,ST.eH]
 simp only[a8]at e6
 have F4:FP H c.bq (c.off+b.length*6) {f with bF:=bF,pc:=f.pc+1} r t h:=z.fp ⟨by show f.aT.length<=_;omega,by show bF.length<=_;omega,by show f.cQ.length<=_;omega⟩
 have bC:∀{aX:ai},(∀ws M,bd M ws (dO f v.aN)->J H M->(dO f v.aN≠[]->g ws.bq=0)->aX ws.v M)->bJ dN 95 [vp c.bq (c.off+b.length*6),af.v] H aX:=λhk=>by
  refine(zq F4.g3 F4.aT (ha.ext z.eH.da) C.arg V).aO ?_;rintro _ X ⟨ws,rfl,ow,ae⟩;have b6:(dO f v.aN).length=v.aN.length:=by simp[dO]
  have iw:bd X ws (dO f v.aN):=bd.jM (l:=dO f v.aN) ow V;refine hk ws X iw ae λap=>?_;rcases ow.bq with w|w
  .subst w;have:=iw.aS;simp at this;exact absurd (cr.1 this.symm) ap
  .exact z.eH.bI _ w
 have aJ:(gJ y.bQ).length<=12:=by
  have:=tI C.ok.gW.kQ.dh y.bQ.length;grind [qu]
 have cg:0<=cJ y/\cJ y<=12:=by grind [cJ]
 refine⟨λw=>?_,λa9=>?_⟩
 .simp only[bP]at w
  have aa:=C.oC.2.2.2.2.2.1 w
  refine⟨cJ y,z.eH.bT.dz 2,bC λws X iw ae _=>?_⟩
  let⟨T,B⟩:=z.ext ae
  have A:=L.to B
  have P:=B.fR L
  have W:eR (cJ y+v.cE)=cJ y+v.cE:=iC
  refine⟨P,ws,rfl,U P 2,ae.db (z.eH.bT.dz 2),U P 1,?_⟩
  rw[W]
  refine(HH T (cJ y+v.cE) iw (by simp[dO];omega) V).aO ?_
  rintro _ K ⟨rfl,bk,aH,G,I⟩
  have aB:=I.fR A
  refine⟨aB,_,rfl,U aB 1,aW (bp:=aH) (am:=jB a.aQ (fD a.aQ) ⟨1,cJ y+v.cE,dO f v.aN⟩) G ((Y.O B).O I) (A.to I) _ _ _ ?_⟩
  grind [dI]
 simp only[a8]at a9
 have QM:dI y a b f v bF=(
  if v.op=14 then{a with aQ:=pX a.aQ (D f.aT (D v.aN 0)),bn:=b++[{f with bF:=gT bF (D v.aN 0) (D bF (D v.aN 0)+1),pc:=f.pc+1}]}
  else if v.op=15 then{a with aQ:=pd (jx a.aQ [D f.aT (D v.aN 0)]),bn:=b++[{f with bF:=bF,pc:=f.pc+1}]}
  else if v.op=16\/v.op=17 then xD a b {f with bF:=bF} v
  else if v.op=18 then{a with bn:=b++[bS.cB {f with bF:=bF,pc:=f.pc+1} v.br (D f.aT (D v.aN 0)) (gE (D f.aT (D v.aN 0)))]}
  else if v.op=19 then{a with bn:=b++[bS.cB {f with bF:=bF,pc:=f.pc+1} v.br (D (bt a.aQ (D f.aT (D v.aN 0))).bU v.cE) 0]}
  else if v.op=20 then{a with bn:=b++[{f with bF:=bF,pc:=if D f.aT (D v.aN 0)=0 then v.cE else f.pc+1}]}
  else if v.op=22 then{a with bn:=b++[{f with bF:=bF,pc:=v.cE}]}
  else if v.op=21 then{a with bn:=b++[{f with bF:=bF,pc:=D v.fQ (tJ (cT y.bQ v.cE) (bt a.aQ (D f.aT (D v.aN 0))).jJ)}]}
  else if v.op=9\/v.op=24 then{a with df:=a.df+1,bn:=if v.op=24 then b++[cq y v.cE f.br (dO f v.aN)]else b++[{f with bF:=bF,pc:=f.pc+1},cq y v.cE v.br (dO f v.aN)]}
  else if v.op=11 then{a with df:=a.df+1,aQ:=iO a.aQ (D f.aT (D v.aN 0)),bn:=b++[{f with bF:=bF,pc:=f.pc+1},cq y ((bt a.aQ (D f.aT (D v.aN 0))).jJ -cJ y) v.br ((bt a.aQ (D f.aT (D v.aN 0))).bU++[D f.aT (D v.aN 1)])]}
  else match b.getLast? with|none=>{a with dT:=0,je:=D f.aT (D v.aN 0),bn:=[]}|some av=>{a with bn:=b.dropLast++[av.cB f.br (D f.aT (D v.aN 0)) (gE (D f.aT (D v.aN 0)))]}):=by
  unfold dI
  simp only[]
  rw[aU V,aU a7,aU V,aU e6,aU a9]
  by_cases a0:v.op=14
  .grind
  rw[aU a0,aU a0]
  by_cases a1:v.op=15
  .grind
  rw[aU a1,aU a1]
  by_cases aC:v.op=16\/v.op=17
  .rw[ba aC,ba aC];rfl
  rw[aU aC,aU aC]
  by_cases a2:v.op=18
  .grind
  rw[aU a2,aU a2]
  by_cases a3:v.op=19
  .grind
  rw[aU a3,aU a3]
  by_cases a4:v.op=20
  .grind
  rw[aU a4,aU a4]
  by_cases a5:v.op=21
  .grind
  rw[aU a5]
  by_cases a6:v.op=22
  .grind
  rw[aU a6,aU a6,aU a5]
  by_cases bI:v.op=9
  .grind
  rw[aU bI]
  by_cases bH:v.op=24
  .grind
  rw[aU bH,aU (show¬(v.op=9\/v.op=24)by omega)]
  by_cases aY:v.op=11
  .grind
  rw[aU aY,aU aY]
  cases b.getLast?<;>rfl
 rw[QM]
 clear QM
 refine⟨λw=>?_,λbb=>?_⟩
 .simp only[bP]at w
  rw[ba w]
  have h2:=C.oC.2.1 V
  have A:=an V
  let⟨aa,bc⟩:=hM.WU w
  let⟨W,aF⟩:=dH aa
  have ay:=bA W
  have aP:=z.eH.aQ.aS
  have aN:=aa.1
  have ao:ix (D f.aT (D v.aN 0))=(D f.aT (D v.aN 0) -1000).toNat:=rfl
  have e5:eR (D f.aT (D v.aN 0) -1000)=D f.aT (D v.aN 0) -1000:=by grind [dt]
  have aK:eR ((bt a.aQ (D f.aT (D v.aN 0))).ct+1)=(bt a.aQ (D f.aT (D v.aN 0))).ct+1:=by grind [dt]
  obtain⟨f0,k0,_⟩:=z.eH.aQ.dz W
  refine⟨j,z.eH.bT.dz 8,r,ad z,V,V,_,ga z.eH.da V,A.1,V,_,gr z A.1 A.2,?_⟩
  rw[e5,<-ao]
  refine⟨V,V,_,k0,V,V,z.eH.aQ.wr (o:=0) ay cH,?_⟩
  rw[aK]
  intro X
  let⟨aL,c5⟩:=z.eH.aQ.xG z.eH.bI W ((bt a.aQ (D f.aT (D v.aN 0))).ct+1)
  let⟨T,B⟩:=z.jK (c5.aO λO hk=>bu hk) aL
  have aw:D v.aN 0<bF.length:=V
  have be:0<=D bF (D v.aN 0)/\D bF (D v.aN 0)<=999999:=by
   refine⟨hM.nn _ (gS (l:=bF) A.1 aw),?_⟩;have hg:=jG (l:=bF) A.1 aw;rw[aE]at hg;let⟨qq,ax,a_⟩:=oa _ _ _ _ hg;have:=(C.SL qq (aZ ax)).2;grind
  have e7:eR (D bF (D v.aN 0)+1)=D bF (D v.aN 0)+1:=by grind [dt]
  refine⟨B.fR L,t,T.jz.kV.2.2.2.2.1,V,V,_,ga T.eH.da V,A.1,V,D bF (D v.aN 0),(T.Nf cG).um A.1 aw,A.1,V,T.jz.bF.Tp A.1 aw,?_⟩
  rw[e7]
  intro K
  let⟨G,I⟩:=T.tX A.1 aw (D bF (D v.aN 0)+1)
  exact⟨I.fR (L.to B),g,cC,j,c,G.eH,(Y.O B).O I⟩
 simp only[a8]at bb
 rw[aU bb]
 refine⟨λw=>?_,λbc=>?_⟩
 .simp only[bP]at w
  rw[ba w]
  have h2:=C.oC.2.1 V
  have A:=an V
  have bi:v.aN=[D v.aN 0]:=by
   cases hx:v.aN with
   |nil=>rw[hx]at h2;simp at h2
   |cons S aw=>cases aw with
    |nil=>rfl
    |cons aK aw=>rw[hx]at h2;simp at h2
  have aK:=C.HE aE hM.nn
  have ht:bY y v=[D v.aN 0]:=by grind [bY]
  have aL:=aK.1
  rw[ht]at aL
  refine⟨j,z.eH.bT.dz 8,?_⟩
  intro X K
  let⟨G,I,kb⟩:=z.Sw
  have S:CF (p7 g H.size 5) K [m.size]:=L.to I
  replace G:ST q (p7 g H.size 5) K k dv (IB d p (cJ y) a cC j c) cC j c a.cC a.aQ b {f with bF:=bF,pc:=f.pc+1} r t h u:=G
  replace I:To g H (p7 g H.size 5) K:=I
  replace kb:dJ K H.size gU [.s j]:=kb
  clear_value K
  refine⟨r,ad G,V,V,_,ga G.eH.da V,A.1,V,_,gr G A.1 A.2,(J5 G.eH.aQ G.eH.bI kb iP (W:=λQ=>oF b Q+jg f.aT bF Q) (aL.congr λQ=>rfl) aK.2 V).aO ?_⟩
  rintro _ m7 ⟨bg,aw,be,bf,c7⟩
  let⟨S7,t7⟩:=G.jK c7 be
  refine⟨t7.fR S,aw,bf.dz 0,S7.eH.pE (i:=8) bO,?_⟩
  intro m8
  let⟨S8,t8⟩:=S7.lL 8 [.s aw]
  exact⟨t8.fR (S.to t7),bg,cC,aw,c,S8.eH,((Y.O I).O t7).O t8⟩
 simp only[a8]at bc
 rw[aU bc]
 refine⟨λw=>?_,λbK=>?_⟩
 .simp only[eD,bP]at w
  rw[ba w]
  refine(Sz z ha C.arg ⟨C.oC.2.2.2.1 w,aM⟩ aO V (λal hq=>?_) (hM.Em w).1 C.ok.aQ (show f.pc+1=f.pc+1 from rfl)).aO ?_
  .refine⟨hM.nn al hq,?_⟩
   let⟨O,hk⟩:=cX.1 hq
   simp only[]at hk
   rw[aE]at hk
   let⟨qq,ax,a_⟩:=oa _ _ _ _ hk
   have:=(C.SL qq (aZ ax)).2
   omega
  rintro _ X ⟨ar,aA,aq,au,L5,B⟩
  exact⟨B.fR L,ar,aA,aq,au,L5,Y.O B⟩
 simp only[cU,a8]at bK
 rw[aU V]
 refine⟨λw=>?_,λbe=>?_⟩
 .simp only[bP]at w
  rw[ba w]
  have h2:=C.oC.2.1 V
  have A:=an V
  refine⟨r,ad z,V,V,_,ga z.eH.da V,A.1,V,_,gr z A.1 A.2,(qy _ _).aO ?_⟩
  rintro _ X ⟨rfl,ae⟩
  let⟨T,B⟩:=z.ext ae
  have P:=B.fR L
  exact⟨P,_,rfl,U P 1,aW (am:=a.aQ) T (Y.O B) (L.to B) _ _ _ rfl⟩
 simp only[a8]at be
 rw[aU be]
 refine⟨λw=>?_,λbf=>?_⟩
 .simp only[bP]at w
  rw[ba w]
  have h2:=C.oC.2.1 V
  have A:=an V
  let⟨aa,aw⟩:=hM.pL w
  let⟨W,aF⟩:=dH aa
  have ay:=bA W
  have aP:=z.eH.aQ.aS
  have aN:=aa.1
  have ao:ix (D f.aT (D v.aN 0))=(D f.aT (D v.aN 0) -1000).toNat:=rfl
  have e5:eR (D f.aT (D v.aN 0) -1000)=D f.aT (D v.aN 0) -1000:=by grind [dt]
  obtain⟨f0,_,_,k2,kf,_⟩:=z.eH.aQ.dz W
  have ax:=kf.aS
  unfold kL at aj
  rw[aU V,aU V,aU V,aU V,aU V,aU V,aU V,ba w]at aj
  refine⟨j,z.eH.bT.dz 8,r,ad z,V,V,_,ga z.eH.da V,A.1,V,_,gr z A.1 A.2,?_⟩
  rw[e5,<-ao]
  exact⟨V,V,f0,k2,aj.2.1,V,_,kf.um aj.2.1 aw,aW (am:=a.aQ) z Y L _ _ _ rfl⟩
 simp only[a8]at bf
 rw[aU bf]
 refine⟨λw=>?_,λbg=>?_⟩
 .simp only[bP]at w
  rw[ba w]
  have h2:=C.oC.2.1 V
  have A:=an V
  refine⟨r,ad z,V,V,_,ga z.eH.da V,A.1,V,_,gr z A.1 A.2,λh5=>?_,λh5=>?_⟩
  .simp at h5;exact aI di _ _ cG
  .simp at h5;exact⟨g,cC,j,c,by rw[aU h5];exact z.eH,Y⟩
 simp only[a8]at bg
 rw[aU bg]
 refine⟨λw=>?_,λbj=>?_⟩
 .simp only[bP]at w
  rw[ba w]
  exact aI di _ _ rfl
 simp only[a8]at bj
 rw[aU bj]
 refine⟨λw=>?_,λbi=>?_⟩
 .simp only[bP]at w
  rw[ba w]
  have h2:=C.oC.2.1 V
  have A:=an V
  let⟨aa,bq⟩:=hM.sM w
  let⟨W,aF⟩:=dH aa
  have ay:=bA W
  have aP:=z.eH.aQ.aS
  have aN:=aa.1
  have ao:ix (D f.aT (D v.aN 0))=(D f.aT (D v.aN 0) -1000).toNat:=rfl
  have e5:eR (D f.aT (D v.aN 0) -1000)=D f.aT (D v.aN 0) -1000:=by grind [dt]
  obtain⟨f0,_,k1,_⟩:=z.eH.aQ.dz W
  unfold kL at aj
  rw[aU V,aU V,aU V,aU V,aU V,aU V,aU V,aU V,aU V,aU V,ba w]at aj
  have aL:tJ (cT y.bQ v.cE) (bt a.aQ (D f.aT (D v.aN 0))).jJ<(cT y.bQ v.cE).length:=mo ⟨_,bq,bO⟩
  have bl:=hj.aS
  have a_:=aj.2.2.1
  refine⟨j,z.eH.bT.dz 8,r,ad z,V,V,_,ga z.eH.da V,A.1,V,_,gr z A.1 A.2,?_⟩
  rw[e5,<-ao]
  refine⟨V,V,_,k1,d,z.eH.bT.dz 0,(xl (aD.ext z.eH.da).bQ C.ok.gW.kQ.dh v.cE).aO ?_⟩
  rintro _ X ⟨cs,rfl,aK,ae⟩
  let⟨T,B⟩:=z.ext ae
  have P:=B.fR L
  refine⟨P,cs,rfl,U P 5,(wm aK _).aO ?_⟩
  rintro _ K ⟨ri,rfl,aw,bm⟩
  let⟨G,I⟩:=T.ext aw
  have aB:=I.fR (L.to B)
  have ax:ri=tJ (cT y.bQ v.cE) (bt a.aQ (D f.aT (D v.aN 0))).jJ:=by
   grind
  subst ax
  exact⟨aB,_,rfl,U aB 5,V,V,_,(hj.ext G.eH.da).um V V,aI (ae.O aw) _ _ rfl⟩
 simp only[a8]at bi
 rw[aU bi]
 have bm:0<=a.df/\a.df<=100000:=by
  grind [we.ok,eM.df,eM.dG]
 have aB:=C.ok.gW
 refine⟨λw=>?_,λe9=>?_⟩
 .simp only[eD,bP]at w
  rw[ba w]
  unfold kL at aj
  rw[aU V,aU V,aU V,aU V,ba w]at aj
  let⟨al,aK,aw,bl⟩:=aj
  have b3:=(aB.eN al (aZ aw)).aT
  have h3:=(aB.kQ.eN al (aZ aw)).1
  have b6:(dO f v.aN).length=v.aN.length:=by simp[dO]
  refine bC λws X iw ae aL=>?_
  let⟨T,B⟩:=z.ext ae
  have P:=B.fR L
  refine⟨P,ws,rfl,U P 0,U P 1,U P 2,U P 3,U P 4,U P 5,U P 2,(JZ T aD aK aw V iw aL V v af az V bm).aO ?_⟩
  rintro _ K ⟨bk,a_,aH,ax,L6,I⟩
  exact⟨I.fR (L.to B),bk,a_,aH,ax,L6,(Y.O B).O I⟩
 simp only[cU,a8]at e9
 rw[aU V]
 refine⟨λw=>?_,λa_=>?_⟩
 .simp only[bP]at w
  rw[ba w]
  have h2:=C.oC.2.2.1 V
  have A:=an V
  have aL:0<=D v.aN 1/\D v.aN 1<f.aT.length:=by grind [we.arg,gS]
  let⟨aa,b4,cy,b0,bU,ci⟩:=hM.apply w
  let⟨W,aF⟩:=dH aa
  have bl:=C.ok.aQ.iu _ (aZ W)
  have cj:=bl.fl
  have bq:=(bl.yH aF).2
  have ay:=bA W
  have aP:=z.eH.aQ.aS
  have aN:=aa.1
  have ao:ix (D f.aT (D v.aN 0))=(D f.aT (D v.aN 0) -1000).toNat:=rfl
  have e5:eR (D f.aT (D v.aN 0) -1000)=D f.aT (D v.aN 0) -1000:=by grind [dt]
  let⟨f0,k0,k1,k2,kf,kr⟩:=z.eH.aQ.dz W
  refine⟨r,ad z,V,V,_,ga z.eH.da V,A.1,V,_,gr z A.1 A.2,j,z.eH.bT.dz 8,?_⟩
  rw[e5,<-ao]
  generalize hw:D f.aT (D v.aN 0)=F at*
  have gv:∀{g m bx cC j c lo am t h u own' pc'},ST q g m k dv bx cC j c lo am b {f with bF:=own',pc:=pc'} r t h u->aR m r.bq (r.off+Int.toNat (D v.aN 1)*1)=some (vi (D f.aT (D v.aN 1))):=λac=>gr ac aL.1 aL.2
  generalize hv:D f.aT (D v.aN 1)=Z at*
  let⟨al,hq⟩:=dY y.cO (((bt a.aQ F).jJ -cJ y).toNat)
  have b1:dy y ((bt a.aQ F).jJ -cJ y)=al:=by grind [dy]
  rw[b1]at b0 bU
  have b3:=(aB.eN al (aZ hq)).aT
  have h3:=(aB.kQ.eN al (aZ hq)).1
  refine⟨V,V,_,k0,_,k1,f0,k2,?_⟩
  intro X K
  have aK:J H K:=by grind [J.cZ,J.cw,J.aV]
  have s6:K.size=H.size+1:=by grind [bD]
  let⟨G,I⟩:=z.ext aK
  clear_value K
  have S:CF g K [H.size,m.size]:=λQ hb=>by
   simp at hb;rcases hb with rfl|rfl
   .exact⟨V,z.eH.bI _ bW⟩
   .exact L.to I _ bO
  have aH:∀{M},J K M->aR M af.bq (af.off+Int.toNat (1:Int)*1)=some (vi (D v.aN 1)):=λhx=>(ha.ext (G.eH.da.O hx)).um V V
  have ew:eR ((bt a.aQ F).jJ -cJ y)=(bt a.aQ F).jJ -cJ y:=by grind [dt]
  have tail:∀{M:E}{es:N},J K M->jo K M bE 1 es (((bt a.aQ F).bU++[Z]).map Ce.i)->
   bJ dN 101 [vp k 0,vi F,vb false] M λcd R=>gL [H.size,m.size] M R/\∃cc:Bool,cd=vb cc/\∃bz:Int,aR R k (0+2)=some (vi bz)/\
    bJ dN 100 [vp k 0,vi (eR ((bt a.aQ F).jJ -bz)),es.v,xv v af az] R λ_ bv=>gL [H.size,m.size] R bv/\Gh q g m k d p (cJ y) {a with df:=a.df+1,aQ:=iO a.aQ F,bn:=b++[{f with bF:=bF,pc:=f.pc+1},cq y ((bt a.aQ F).jJ -cJ y) v.br ((bt a.aQ F).bU++[Z])]} bv:=λ{M}{es} hx oe=>by
   let⟨SM,tM⟩:=G.ext hx
   have BM:=S.to tM
   have ie:bd M es ((bt a.aQ F).bU++[Z]):=by grind [bd.jM]
   have bR:es.bq<M.size:=by grind [lG]
   have bQ:g es.bq=0:=by
    rcases oe.bq with w|w
    .subst w;have:=ie.aS;simp at this
    .exact G.eH.bI _ w
   refine(HI SM aa false C.ok.aQ V).aO ?_
   rintro _ m8 ⟨Q,rfl,_,cA,cs,S8,t8⟩
   have hK:vI a.aQ F false=iO a.aQ F:=by grind [vI]
   rw[hK]at S8
   have b8:bd m8 es ((bt a.aQ F).bU++[Z]):=by grind [jV,dZ.fL]
   refine⟨t8.fR BM,Q,rfl,cJ y,S8.eH.bT.dz 2,?_⟩
   rw[ew]
   refine(JZ (s:={a with aQ:=iO a.aQ F}) S8 aD b4 hq V b8 (λ_=>by rw[t8.j8 _ bR];exact bQ) cG v af az V bm).aO ?_
   rintro _ m9 ⟨ce,cb,bZ,bL,L9,t9⟩
   refine⟨t9.fR (BM.to t8),ce,cb,bZ,bL,?_,(((Y.O I).O tM).O t8).O t9⟩
   grind
  refine⟨r,ad G,V,V,_,aH di,aL.1,V,Z,gv G,?_,?_⟩
  .refine(ly (kf.ext aK) V).aO ?_
   rintro _ m7 ⟨cl,rfl,oc,P⟩
   let⟨S7,t7⟩:=G.ext P
   have B7:=S.to t7
   refine⟨t7.fR S,cl,rfl,P.db (gv G),P.db (aH di),bB (P.bC m.size (S _ bO).1) 4,P.db (ad G),?_⟩
   intro m8
   have T:=px m8
   refine⟨bB (T.bC H.size (B7 _ bO).1) 2,rR oc P V λes m9 o9 aw=>⟨?_,tail aw o9⟩⟩
   intro Q hb
   have ax:=(S Q hb).1
   rw[aw.bC Q ax,T.bC Q (oh P.aP),P.bC Q ax]
  .intro m7
   obtain⟨P,s7⟩:=pu m7
   have bM:dJ m7 K.size bE [.i Z]:=dJ.push K _ _
   clear_value m7
   let⟨S7,t7⟩:=G.ext P
   have B7:=S.to t7
   refine⟨bB (P.bC H.size (S _ bO).1) 2,(ly (kf.ext (aK.O P)) V).aO ?_⟩
   rintro _ m8 ⟨cl,rfl,oc,T⟩
   let⟨S8,t8⟩:=S7.ext T
   have ch:cl.len=(bt a.aQ F).bU.length:=by have:=oc.aS;simp at this;omega
   refine⟨t8.fR B7,cl,rfl,T.db (gv S7),T.db (aH P),bB (T.bC m.size (B7 _ bO).1) 4,T.db (ad S7),?_⟩
   have bk:=P.O T
   refine jo.fy (c:=[.i 0]) (x:=.mk K.size 0 1 1) (h:=[.i Z]) (oc.da V) bk rfl (bM.ext T).kV (by simp only[N.lJ];omega) λes m9 o9 aw _ _ _ _=>⟨?_,tail aw (sp o9)⟩
   intro Q hb
   have ax:=(S Q hb).1
   rw[aw.bC Q ax,bk.bC Q ax]
 simp only[a8]at a_
 rw[aU a_]
 refine⟨λw=>?_,λK=>?_⟩
 .simp only[bP]at w
  have h2:=C.oC.2.1 V
  have A:=an V
  refine⟨r,ad z,V,V,_,ga z.eH.da V,A.1,V,_,gr z A.1 A.2,(Lq z V (D f.aT (D v.aN 0)) (λav hg=>?_)).aO ?_⟩
  .have ap:b≠[]:=cG
   have I:b=b.dropLast++[av]:=by
    grind [List.getLast?_eq_some_getLast,List.dropLast_concat_getLast]
   have P:b.length=b.dropLast.length+1:=by
    grind [List.length]
   let⟨S,T,W⟩:=C.ok.tG b.dropLast.length av f (by rw[C.fr,I];simp) (by rw[C.fr,<-P];simp)
   have G:=C.ok.bn av (by rw[C.fr,I];simp)
   have:=G.lr
   have:=G.lo
   grind
  rintro _ X ⟨ar,aA,aq,au,L5,B⟩
  exact⟨B.fR L,ar,aA,aq,au,L5,Y.O B⟩
 simp only[a8]at K
 have:=C.opc
 omega
end
section
variable{a:cV}{b:E}{e k:Nat}
section
variable{j:E}{h:ag}{m:E}{f:Nat}{d p cC g c:N}{s:St}
def SA(L:zP j h m f dv (IB d p (cJ a) s cC g c) cC g c s.cC s.aQ s.bn)(z:iF j d p a)(u:eM a s)(am:∀t∈s.bn,∀w∈t.aT,w<=9223372036854775807)(ao:s.aQ.length<=900000000)(ar:s.cC.length<=900000000):
 bJ dN 27 [vp f 0] m λ_ I=>Gh j h m f d p (cJ a) (ns a s) I:=by
 apply Ac (f,0)
 simp -zeta only[dU]
 refine⟨s.dT,L.bT.dz 3,λy=>?_,λy=>?_⟩
 .simp at y
  rw[o8 y]
  exact⟨h,cC,g,c,L,dZ.cZ _ L.bI⟩
 have G:s.dT=3:=sp y
 let⟨l,e,r⟩:=u.split G
 have ap:s.bn.getLast?=some e:=by rw[r];simp
 have al:s.bn.dropLast=l:=by rw[r];simp
 have C:we a s l e (bH a e):=⟨u,G,r,rfl,am⟩
 have ax:ns a s=(open Classical in if me (bH a e).op/\s.df=s.dG then{s with dT:=1}else if iR a s e (bH a e) (bV e.aT e.bF (bY a (bH a e)))then dI a s l e (bH a e) (bV e.aT e.bF (bY a (bH a e)))else{s with dT:=2}):=by
  unfold ns;rw[aU (sp G),ap,al]
 rw[ax]
 generalize bH a e=x at*
 have N:zP j h m f dv (IB d p (cJ a) s cC g c) cC g c s.cC s.aQ (l++[e]):=by rw[<-r];exact L
 let⟨ae,ad,U,af,T⟩:=N.bn.jz
 have S:ST j h m f dv (IB d p (cJ a) s cC g c) cC g c s.cC s.aQ l e ae ad U af:=⟨N,T⟩
 have aC:=T.DT
 have aa:=u.mQ
 have aB:=u.df
 have aF:=u.dG
 rw[r]at aa
 have aD:l.length<=1000:=by simp at aa;omega
 have e1:eR ((c.len:Int) -1)=(l.length:Int):=by rw[iC];omega
 have e2:Int.toNat (l.length:Int)=l.length:=V
 have R:aR m f 9=some c.v:=S.eH.bT.dz 9
 obtain⟨Q,g1,_,_,_,_⟩:=T.kV
 let⟨aK,hq,av,hP,aj,hI⟩:=C.I
 let⟨pa,pl,pc,aG,aI,ac,k0,k1,k2,k3,k4⟩:=z.cO.D hq
 let⟨F,H,X,hj,i0,i1,i2,i3,i4,i5⟩:=ac.D aj
 have aJ:=z.cO.aS
 have aH:=ac.aS
 have W:=C.F
 have au:=W.fY
 have ab:=W.pc
 rw[av]at ab
 have n:=S.eH.da
 refine⟨c,R,c,R,?_⟩
 rw[e1,e2]
 refine⟨V,V,p,S.eH.bT.dz 1,_,Q,au.1,V,pc,n.aR k4,_,g1,ab.1,V,_,n.aR i0,_,n.aR i1,_,n.aR i2,_,n.aR i3,F,n.aR i4,H,n.aR i5,?_⟩
 intro m1
 have o:=px m1
 refine⟨o.db (n.aR i0),o.db (n.aR i1),o.db (n.aR i2),o.db (n.aR i3),o.db (n.aR i4),o.db (n.aR i5),o.db g1,o.db (n.aR k4),o.db Q,o.db (S.eH.bT.dz 1),?_⟩
 intro b
 have ay:J m b:=o.aV bW _ _
 have s2:b.size=m.size+1:=by simp[b,m1,bD]
 let⟨k,t2⟩:=S.ext ay
 have A:CF h b [m.size]:=λO n=>by simp at n;subst n;exact⟨V,S.eH.bI _ bW⟩
 clear_value b
 have aE:=C.SD
 have aw:({s with bn:=l++[e]}:St)=s:=by rw[<-r]
 have an:oU b c (l++[e]):=k.eH.bn.PR fj (λt w=>by
  have q:=u.bn t (by rw[r];exact w);obtain⟨P,_,B,v,_⟩:=q.Aj u.gW;have D:=q.lr;have K:=q.lo;have M:=q.lh;rw[B]at D K M;have:=v.aT;omega)
 have ah:RV b f 3 d p cC g c a s:=by
  have:RV b f 3 d p cC g c a {s with bn:=l++[e]}:=⟨z.ext k.eH.da,k.eH.bT.dz 0,k.eH.bT.dz 1,k.eH.bT.dz 3,k.eH.bT.dz 4,k.eH.bT.dz 5,k.eH.bT.dz 6,k.eH.bT.dz 7,k.eH.bT.dz 8,k.eH.bT.dz 9,k.eH.cC.nL V,k.eH.aQ.kG V,an⟩;rw[aw]at this;exact this
 have F2:FP b c.bq (c.off+l.length*6) e ae ad U:=k.fp ⟨V,V,V⟩
 have mC:¬(me x.op/\s.df=s.dG)->bJ dN 50 [vp f 0,vp c.bq (c.off+l.length*6),xv x F H] b λaz v=>
  gL [m.size] b v/\∃K:Bool,az=vb K/\
  ((!K)=true->iQ v f (0+3) 1/\let q:E:=aV v f (0+3) [.i (2:Int)]
   gL [m.size] v q/\Gh j h m f d p (cJ a) (open Classical in if me x.op/\s.df=s.dG then{s with dT:=1}else if iR a s e x (bV e.aT e.bF (bY a x))then dI a s l e x (bV e.aT e.bF (bY a x))else{s with dT:=2}) q)/\
  ((!K)=false->bJ dN 51 [vp f 0,vp c.bq (c.off+l.length*6),xv x F H] v λt q=>
   gL [m.size] v q/\Gh j h m f d p (cJ a) (open Classical in if me x.op/\s.df=s.dG then{s with dT:=1}else if iR a s e x (bV e.aT e.bF (bY a x))then dI a s l e x (bV e.aT e.bF (bY a x))else{s with dT:=2}) q):=λaq=>by
  refine(Ui ah (k.eH.bT.dz 2) C F2 (X.ext k.eH.da) V).aO ?_
  rintro _ m3 ⟨O,rfl,Y,ag⟩
  let⟨B,t3⟩:=k.ext ag
  have M:=A.to t3
  rw[aU aq]
  refine⟨t3.fR A,O,rfl,λq=>?_,λq=>?_⟩
  .rw[aU (nb Y q)]
   refine⟨B.eH.pE (i:=3) bO,?_⟩
   intro m4
   let⟨D,t⟩:=B.lL 3 [.i 2]
   refine⟨t.fR M,h,cC,g,c,?_,(t2.O t3).O t⟩
   have:=D.eH
   rw[<-r]at this
   exact this
  .have w:=yb Y q
   rw[ba w]
   refine(VV C rfl w B z X hj ao ar).aO ?_
   rintro _ m4 ⟨aA,ak,ai,Z,P,t⟩
   exact⟨t.fR M,aA,ak,ai,Z,P,(t2.O t3).O t⟩
 refine⟨λP I=>I=b/\(P=true<->me x.op),⟨λq=>⟨rfl,by simp at q;simp[me,q]⟩,λq=>⟨λw=>⟨rfl,by simp at w;simp[me,w]⟩,λw=>⟨rfl,by simp at q w;simp[me,q,w]⟩⟩⟩,?_⟩
 rintro P m3 ⟨rfl,Z⟩
 refine⟨λak=>⟨s.df,k.eH.bT.dz 5,s.dG,k.eH.bT.dz 6,λw=>?_,λw=>?_⟩,λai=>?_⟩
 .simp at w
  refine⟨k.eH.pE (i:=3) bO,?_⟩
  intro m4
  let⟨D,t⟩:=k.lL 3 [.i 1]
  refine⟨t.fR A,h,cC,g,c,?_,t2.O t⟩
  rw[ba ⟨Z.1 ak,w⟩]
  have:=D.eH
  rw[<-r]at this
  exact this
 .simp at w
  exact mC λt=>w t.2
 .exact mC λt=>by have:=Z.2 t.1;rw[ai]at this;simp at this
end
def sH{m:E}{r x:N}(C:iF m r x a)(u:gC a)(dG:Int):
 bJ dN 26 [.agg #[N.v r,N.v x],vi dG] m λG e=>∃s,G=.agg #[vi 3,vi 0,vi 0,vi dG,N.v .nil,N.v .nil,N.v s]/\J m e/\∃b1 b2 b3 b4 k,s=.mk b4 0 1 1/\
  tA m e b1 b2 b3 k (cq a 0 0 []).aT (cq a 0 0 []).bF (cq a 0 0 []).cQ/\(b4≠b1/\b4≠b2/\b4≠b3/\m.size<=b4/\b4<e.size)/\dJ e b4 iz [.i 0,.i 0,.i 0,.s (.mk b1 0 k k),.s (.mk b2 0 k k),.s (.mk b3 0 k k)]:=by
 apply CX
 simp -zeta only[kd]
 intro n b
 have v:J m b:=((J.cZ m).cw _).cw _
 have F:=pz n
 have M:b.size=m.size+2:=by simp[b,F]
 clear_value b
 have H:=u.kQ.aS
 let⟨q,j⟩:=dY a.cO 0
 have K:=(u.eN q (aZ j)).aT
 have l:dy a 0=q:=by simp[dy,j]
 refine(Ae (C.ext v) (dR 0) j V 0).aO ?_
 rintro _ o ⟨b1,b2,b3,rfl,c⟩
 have i:=c.ext
 have I:=c.lo
 have L:=i.aP
 refine⟨i.fq fj,_,_,_,_,_,_,rfl,?_⟩
 intro f p
 obtain⟨t,O⟩:=pu f
 have P:p.size=f.size:=bD _ _ _ _
 have D:dJ f o.size iz [.i 0,.i 0,.i 0,.s (.mk b1 0 q.aT.toNat q.aT.toNat),.s (.mk b2 0 q.aT.toNat q.aT.toNat),.s (.mk b3 0 q.aT.toNat q.aT.toNat)]:=dJ.push o _ _
 have h:=c.Lk t
 have w:J m p:=(v.O (i.O t)).aV (show m.size<=n.size by omega) _ _
 have g:∀d,d≠n.size->p[d]? =f[d]? :=λd B=>cg _ _ _ _ B
 have A:(cq a 0 0 []).aT=eQ q.aT.toNat:=by simp[cq,l]
 have z:(cq a 0 0 []).bF=eQ q.aT.toNat:=by simp[cq,l,fI]
 have y:(cq a 0 0 []).cQ=eQ q.aT.toNat:=by simp[cq,l]
 refine⟨_,rfl,w,b1,b2,b3,o.size,q.aT.toNat,rfl,?_,V,D.congr (g _ V)⟩
 rw[A,z,y]
 exact⟨w,V,h.kr.congr (g _ V),h.ko.congr (g _ V),h.kh.congr (g _ V),c.aS⟩
def Yu{m:E}{QM:ae}{g:N}{dG:Int}{b1 b2 b3 b4 c:Nat}(x:g=.mk b4 0 1 1)
 (i:tA m b b1 b2 b3 k (cq a 0 0 []).aT (cq a 0 0 []).bF (cq a 0 0 []).cQ)(A:b4≠b1/\b4≠b2/\b4≠b3/\m.size<=b4/\b4<b.size)(z:dJ b b4 iz [.i 0,.i 0,.i 0,.s (.mk b1 0 k k),.s (.mk b2 0 k k),.s (.mk b3 0 k k)])
 (C:m.size<=c/\c≠b1/\c≠b2/\c≠b3/\c≠b4)(kb:dJ b c e (QM++[.i 3,.i 0,.i 0,.i dG,.s .nil,.s .nil,.s g])):
 zP m (p7 (p7 (pY (λ_=>0) b1 b2 b3 0) b4 4) c 1) b c e (QM++[.i 3,.i 0,.i 0,.i dG,.s .nil,.s .nil,.s g]) .nil .nil g [] [] [cq a 0 0 []]:=by
 have B:=i.lo
 have y:J m b:=i.ext
 have D:=kb.lt
 have p:∀d,d≠c->d≠b4->(p7 (p7 (pY (λ_=>0) b1 b2 b3 0) b4 4) c 1) d=pY (λ_=>0) b1 b2 b3 0 d:=λd j l=>by rw[fO j,fO l]
 let⟨v,a2,a3⟩:=i.rE (q:=λ_=>0) (w:=0)
 have conv:∀{q:Nat}{s:N}{t:ae},iJ (pY (λ_=>0) b1 b2 b3 0) b bE 1 q s t->s.bq≠c->s.bq≠b4->iJ (p7 (p7 (pY (λ_=>0) b1 b2 b3 0) b4 4) c 1) b bE 1 q s t:=λu j l=>u.fL (λ_=>rfl) (λ_=>p _ j l)
 refine⟨y,λd w=>?_,λd w=>?_,kb,iP,⟨bO,bO,bu rfl⟩,⟨[],⟨bO,bO,bu rfl⟩,fK.gD _ _,Sep.gD⟩,?_⟩
 .rw[p d V V];unfold pY;rw[fO V,fO V,fO V]
 .rw[p d V V];unfold pY;rw[fO V,fO V,fO V]
 .refine rD.qd (a:=[]) (f:=cq a 0 0 []) (r:=.mk b1 0 k k) (e:=.mk b2 0 k k) (h:=.mk b3 0 k k) (j:=[]) ⟨?_,rfl,bO,bO,conv v (by simp only[N.mP];omega) (by simp only[N.mP];omega),conv a2 (by simp only[N.mP];omega) (by simp only[N.mP];omega),conv a3 (by simp only[N.mP];omega) (by simp only[N.mP];omega)⟩
  rw[x]
  refine⟨rfl,bW,bG ⟨b4,1,[],rfl,?_,?_,rfl⟩⟩
  .grind [fO,iP]
  .rw[fH];exact z
def aeU(m a:E)(s:N)(l:ab):Prop:=l.length<=1000000000/\bd a s l/\(l≠[]->jo m a bE 1 s (l.map Ce.i))
def XG(m a:E)(x:Exe)(v:Value):Prop:=∃cC,v=.tuple #[.agg #[vi x.dT,vi x.je,vi x.df,cC.v],vb x.ok]/\aeU m a cC x.cC/\J m a
def iJ.aew{d:ag}{c m:E}{f:Nat}{s:N}{l:ae}(h:iJ d m e f k s l)(j:∀b,b<c.size->d b=0)(i:k≠0)(o:l≠[]):jo c m e f s l:=by
 rcases h.D with a|⟨b,g,tail,a,h2,h3,h4⟩
 .grind [iJ.zV]
 .refine⟨h.aS,bG ⟨b,g,tail,a,Nat.le_of_not_lt λn=>i cG,h3,h4,?_⟩⟩;have:=h.le;rw[a]at this;simpa using this
theorem RS(a:cV):∀(c b:Nat)(s:St),bz a (c+b) s=bz a b (bz a c s)
 |0,b,s=>by simp[bz]
 |c+1,b,s=>by rw[Nat.succ_add];simp only[bz];exact RS a c b _
def TA(b i:Nat)(j:ad)(m:E)(R:ai):Prop:=
 ∃(c:E->Prop)(μ0:E->Nat),c m/\(∀(a:E),c a->
 ∃e:Int,aR a b 3=some (vi e)/\
 ((e==(3:Int))=true->
 bJ dN 27 [vp b 0] a λf d=>
 gL j a d/\
 c d/\μ0 d<μ0 a)/\
 ((e==(3:Int))=false->
 ∃d:Int,aR a b 3=some (vi d)/\
 ∃f:Int,aR a b 4=some (vi f)/\
 ∃g:Int,aR a b 5=some (vi g)/\
 ∃h:N,aR a b 7=some h.v/\
 let k:E:=aV a i 0 [.i d,.i f,.i g,.s h]
 R (.tuple #[.agg #[vi d,vi f,vi g,h.v],vb true]) k))
def T8{o M:E}{j r l:N}{dG:Int}{s:ag}{q h:Nat}{i:ad}(w:gC a)(v:0<=dG/\dG<=40)(G:iF M j r a)(y:J o M)(F:o.size<=h/\h<M.size)(u:∀d∈i,d<M.size)
 (L:zP M s b q dv (IB j r (cJ a) (iI a dG) .nil .nil l) .nil .nil l [] [] [cq a 0 0 []]):
 TA q h i b (λf c=>XG o c (oR a dG) f):=by
 have x:=FE w v
 refine aaW (λ(k:Nat) c=>k<=100000/\Gh M s b q j r (cJ a) (bz a k (iI a dG)) c) (λk=>100000 -k) 0 ⟨jb _,s,.nil,.nil,l,L,dZ.cZ _ L.bI⟩ ?_
 rintro k z R μ ⟨U,P,g,X,T,c,t3⟩ K
 have H:=AP k x
 have f:=KT k x (Qs a dG) V
 have B:CF P z i:=λd t=>⟨c.da.lt (u d t),c.ni d (u d t)⟩
 refine⟨_,c.bT.dz 3,λm=>?_,λm=>?_⟩
 .simp at m
  have W:k<100000:=by
   rcases eJ k 100000 with n|n
   .exact n
   .have D:k=100000:=V;have p:=(KU w v).2.2;grind [wU]
  refine(SA c G H f.Nw (oh f.aQ) (oh f.cC)).aO ?_
  rintro _ p ⟨Q,O,I,C,S,A⟩
  refine⟨A.fR B,K (k+1) p ⟨V,Q,O,I,C,?_,t3.O A⟩ cG⟩
  grind [uP]
 .simp at m
  have O:nD a dG=bz a k (iI a dG):=by
   have D:100000=k+(100000 -k):=V;grind [wU,RS,pK]
  refine⟨_,c.bT.dz 3,_,c.bT.dz 4,_,c.bT.dz 5,g,c.bT.dz 7,?_⟩
  intro p
  have I:=f.cC
  have C:oR a dG=⟨(bz a k (iI a dG)).dT,(bz a k (iI a dG)).je,(bz a k (iI a dG)).df,(bz a k (iI a dG)).cC,true⟩:=by
   grind [oR]
  rw[C]
  have n:(bz a k (iI a dG)).cC≠[]->p[g.bq]? =z[g.bq]? :=λn=>cg _ _ _ _ λe=>by
   grind [N.cap,zP.cC,iJ.zV,iJ.bq,zP.ni]
  refine⟨g,rfl,⟨by show(bz a k (iI a dG)).cC.length<=_;omega,jV (c.cC.nL V) n,λA=>?_⟩,(y.O c.da).aV F.1 _ _⟩
  exact(((c.cC.aew c.ni cH cG).congr (n A)).da y.aP)
def aag.toI{m b:E}{x:Exe}{v:Value}(h:aag m b x v)(e:x.cC.length<=1000000000):XG m b x v:=by
 let⟨cC,c,a,d⟩:=h;exact⟨cC,c,⟨e,bd.jM a V,λ_=>a⟩,d⟩
def T7(a:cV)(dG:Int):(oR a dG).cC.length<=1000000000:=by
 grind [oR,KU,Sm.cC]
def LO{m:E}{d p:N}(b:iF m d p a)(dG:Int):bJ dN 9 [.agg #[d.v,p.v],vi dG] m λv c=>XG m c (oR a dG) v:=
 (NE b dG).aO λ_ _ h=>h.toI (T7 a dG)
def Ck{c:E}{d p:N}(Z:iF c d p a)(dG:Int):bJ dN 8 [.agg #[d.v,p.v],vi dG] c λX S=>XG c S (oR a dG) X:=by
 apply Ii;simp -zeta only[dU];intro q b;have Q:J c b:=((J.cZ c).cw _).cw _;have s1:=pz q;have s2:b.size=c.size+2:=by simp[b,s1]
 have kI:dJ b c.size lV [.s d,.s p]:=(dJ.push c _ _).ext (J.push q _);clear_value b;have G:∀n∈[q.size,c.size],n<b.size:=fj;have U:∀{f:E},J b f->¬(gC a/\0<=dG/\dG<=40)->XG c (aV f q.size 0 [.i (0:Int),.i (0:Int),.i (0:Int),.s N.nil]) (oR a dG) (.tuple #[.agg #[vi (0:Int),vi (0:Int),vi (0:Int),N.v N.nil],vb false]):=λg aj=>by
  rw[oR,aU aj];exact⟨.nil,rfl,⟨bO,⟨rfl,bO,bO,bO⟩,λh=>absurd rfl h⟩,(Q.O g).aV V _ _⟩
 refine(sD (Z.ext Q)).bK di G λn f j g _=>⟨n,rfl,λK=>U g (λe=>nb j K e.1),λK=>⟨λL=>U g (λe=>by simp at L;omega),λL=>⟨λO=>U g (λe=>by simp at O;omega),λO=>?_⟩⟩⟩;have B:=yb j K;have hm:0<=dG/\dG<=40:=by simp at L O;omega
 have ab:=Q.O g;have s3:=g.aP;have A:=Z.ext ab;have ad:=kI.ext g;have ht:=B.kQ.dh;have Y:∀{M:E},J f M->Gg dN 25 [d.v] M (vi (cJ a)):=λy=>uG (A.ext y).bQ ht.aS (λe hd=>Si ht e hd);have ks:∀{M l:E},J f M->J M l->(aR l c.size 0=aR M c.size 0/\aR l c.size 1=aR M c.size 1):=λw x=>⟨x.db ((ad.ext w).dz 0),x.db ((ad.ext w).dz 1)⟩;have sm:∀{M l:E},J f M->J M l->gL [q.size,c.size] M l:=λw x=>x.fq λn j=>w.lt (g.lt (G n j));have W:∀{M l:E}{nb:Nat},J f M->J M l->nb<M.size->gL [nb,q.size,c.size] M l:=λw x ai=>x.fq λn j=>by
  rcases aY.1 j with rfl|j
  .exact ai
  .exact w.lt (g.lt (G n j))
 have R:∀{M s:E}{e:N}{b1 b2 b3 b4 k v:Nat},J f M->e=.mk b4 0 1 1->tA M s b1 b2 b3 k (cq a 0 0 []).aT (cq a 0 0 []).bF (cq a 0 0 []).cQ->(b4≠b1/\b4≠b2/\b4≠b3/\M.size<=b4/\b4<s.size)->dJ s b4 iz [.i 0,.i 0,.i 0,.s (.mk b1 0 k k),.s (.mk b2 0 k k),.s (.mk b3 0 k k)]->
  (M.size<=v/\v≠b1/\v≠b2/\v≠b3/\v≠b4)->dJ s v dv ([.s d,.s p,.i (cJ a)]++[.i 3,.i 0,.i 0,.i dG,.s .nil,.s .nil,.s e])->TA v q.size [q.size,c.size] s (λX S=>XG c S (oR a dG) X):=λy t h F u ah kb=>by
  have:=y.aP
  exact T8 B hm (A.ext y) (ab.O y) V (λn j=>y.lt (g.lt (G n j))) (Yu t h F u ah kb)
 refine⟨(Y di).aO ?_,?_⟩
 .rintro _ H ⟨rfl,i⟩;have D:=ks di i;refine⟨sm di i,_,rfl,D.1,D.2,D.1,D.2,?_,?_⟩
  .refine(sH (A.ext i) B dG).aO ?_;rintro _ P ⟨e,rfl,C,b1,b2,b3,b4,k,t,h,F,u⟩;have ac:=ks i C;refine⟨sm i C,_,_,_,_,_,_,_,rfl,ac.1,ac.2,?_⟩;intro m8;have T:=px m8;have z:=ks (i.O C) T;refine⟨z.1,z.2,z.1,z.1,z.2,?_⟩;intro s;have I:J P s:=T.aV bW _ _;have kb:dJ s P.size dv ([.s d,.s p,.i (cJ a)]++[.i 3,.i 0,.i 0,.i dG,.s .nil,.s .nil,.s e]):=dJ.aV (m:=m8) (o:=0) (r:=[.s d,.s p,.i (cJ a),.i 3,.i 0,.i 0,.i dG,.s .nil,.s .nil,.s e]) (dJ.push P _ _);have aa:=h.lo;have s9:=I.aP;have s7:=C.aP;exact R i t (h.Lk I) V (u.ext I) V kb
  .intro T;obtain⟨P,ak⟩:=pu T;have I:=i.O P;have z:=ks i P;have kz:dJ T H.size dv [.s .nil,.s .nil,.i 0,.i 0,.i 0,.i 0,.i 0,.s .nil,.s .nil,.s .nil]:=dJ.push H _ _;refine⟨z.1,z.2,z.1,z.1,z.2,?_⟩;clear_value T;refine(sH (A.ext I) B dG).aO ?_;rintro _ ae ⟨e,rfl,C,b1,b2,b3,b4,k,t,h,F,u⟩;have ac:=ks I C;refine⟨W I C V,_,_,_,_,_,_,_,rfl,ac.1,ac.2,?_⟩;intro af;have aa:=h.lo;have ag:=h.bT P (nb:=H.size) bW V 0 [.s d,.s p,.i (cJ a),.i 3,.i 0,.i 0,.i dG,.s .nil,.s .nil,.s e];have kb:dJ af H.size dv ([.s d,.s p,.i (cJ a)]++[.i 3,.i 0,.i 0,.i dG,.s .nil,.s .nil,.s e]):=dJ.aV (m:=ae) (o:=0) (r:=[.s d,.s p,.i (cJ a),.i 3,.i 0,.i 0,.i dG,.s .nil,.s .nil,.s e]) (kz.ext C);have al:af.size=ae.size:=bD _ _ _ _;exact R i t ag V (u.congr (cg _ _ _ _ V)) V kb
 .intro P;obtain⟨z,ak⟩:=pu P;have C:=ks di z;have kz:dJ P f.size dv [.s .nil,.s .nil,.i 0,.i 0,.i 0,.i 0,.i 0,.s .nil,.s .nil,.s .nil]:=dJ.push f _ _;refine⟨C.1,C.2,C.1,C.1,C.2,?_⟩;clear_value P;refine(Y z).aO ?_;rintro _ ag ⟨rfl,i⟩;have D:=z.O i;have H:=ks z i;have al:=i.aP;refine⟨W z i V,_,rfl,H.1,H.2,H.1,H.2,?_⟩;refine(sH (A.ext D) B dG).aO ?_;rintro _ ac ⟨e,rfl,I,b1,b2,b3,b4,k,t,h,F,u⟩;have T:=ks D I;refine⟨W D I V,_,_,_,_,_,_,_,rfl,T.1,T.2,?_⟩;intro ae;have aa:=h.lo;have af:=h.bT D (nb:=f.size) bW V 0 [.s d,.s p,.i (cJ a),.i 3,.i 0,.i 0,.i dG,.s .nil,.s .nil,.s e];have kb:dJ ae f.size dv ([.s d,.s p,.i (cJ a)]++[.i 3,.i 0,.i 0,.i dG,.s .nil,.s .nil,.s e]):=dJ.aV (m:=ac) (o:=0) (r:=[.s d,.s p,.i (cJ a),.i 3,.i 0,.i 0,.i dG,.s .nil,.s .nil,.s e]) (kz.ext (i.O I));have am:ae.size=ac.size:=bD _ _ _ _;exact R di t af V (u.congr (cg _ _ _ _ V)) V kb
end
end Go.Proofs.YtbbbdejieenniaaGreat
section
namespace Go.Vc
def zW{m:E}{b o:Nat}{v:Value}(h:(aR m b o).isSome=true):aR (vt m b o v) b o=some v:=by
 grind [aR,vt,Array.size,Nat.lt_or_ge,Array.getElem?_eq_none]
def Pe{m:E}{c o a b:Nat}{v:Value}(h:a≠c\/b≠o):aR (vt m c o v) a b=aR m a b:=by
 grind [aR,vt,bB,P5]
def VI{m:E}{c o:Nat}{v:Value}{a b:Nat}:CL (vt m c o v) a b=CL m a b:=by
 grind [CL,vt,P5]
@[grind cases] structure QP (m:E) (k:Int) (pos:ao) (m':E):Prop where
 aP:m.size<=m'.size
 bq:∀b,b<m.size->(∀p∈pos,p.1≠b)->m'[b]? =m[b]?
 iu:∀b o,b<m.size->(b,o)∉pos->aR m' b o=aR m b o
 CL:∀b o,b<m.size->Vc.CL m' b o=Vc.CL m b o
 pS:∀p∈pos,∃n,aR m' p.1 p.2=some (vi n)
 aez:pos.Nodup->∀(j:Nat)(p:aj),pos[j]? =some p->aR m' p.1 p.2=some (vi (k+j))
def QP.gD{m c:E}(h:J m c)(k:Int):QP m k [] c:=
 ⟨h.aP,λb a _=>h.bC b a,λb o a _=>bB (h.bC b a) o,λb o a=>by unfold Vc.CL;rw[h.bC b a],bO,bO⟩
def QP.lW{m:E}{b o:Nat}(h:(aR m b o).isSome=true)(k:Int):QP m k [(b,o)] (aV m b o [.i k]):=by
 refine⟨ML (bD _ _ _ _).symm,λc d f=>cg _ _ _ _ λe=>f (b,o) bO e.symm,λc q d f=>?_,λc q d=>VI,λp a=>?_,λ_ j p a=>?_⟩
 .refine Pe ?_;grind
 .simp at a;subst a;exact⟨k,zW h⟩
 .cases j with
  |zero=>
   simp at a;subst a;have e:k+((0:Nat):Int)=k:=V;rw[e];exact zW h
  |succ j=>simp at a
def QP.O{m f i:E}{k:Int}{e p2:ao}(h:QP m k e f)(g:QP f (k+e.length) p2 i):QP m k (e++p2) i:=by
 have j:=h.aP;refine⟨fA h.aP g.aP,λb c d=>?_,λb o c d=>?_,λb o c=>?_,λp a=>?_,λhd l p a=>?_⟩
 .rw[g.bq b V λp a=>d p (mM _ a),h.bq b c λp a=>d p (dK _ a)]
 .grind [QP.iu,List.mem_append_right,List.mem_append_left]
 .grind [QP.CL]
 .grind [QP.pS,QP.iu,qv]
 .grind [List.nodup_append,List.length,List.getElem?_append_left,List.mem_of_getElem?,QP.pS,QP.iu,qv,QP.aez,List.getElem?_append_right]
inductive Row where
 |nil
 |int (r:Row)
 |sl (e r:Row)
def Row.aP:Row->Nat
 | .nil=>0
 | .int r=>r.aP+1
 | .sl _ r=>r.aP+1
inductive YN where
 |kV (r:Row)
 |Eu (e:Row) (n:Nat)
inductive yf(m:E):YN->Nat->Nat->ao->Prop where
 |nil (b o:Nat):yf m (.kV .nil) b o []
 |int {b o:Nat} {r:Row} {p:ao} {n:Int} (h:aR m b o=some (vi n)) (hf:Vc.CL m b o=false) (hr:yf m (.kV r) b (o+1) p):yf m (.kV (.int r)) b o ((b,o)::p)
 |sl {b o:Nat} {e r:Row} {p1 p2:ao} {s:N} (h:aR m b o=some s.v) (hl:s.len<=9223372036854775807) (he:yf m (.Eu e s.len) s.bq s.off p1) (hr:yf m (.kV r) b (o+1) p2):yf m (.kV (.sl e r)) b o (p1++p2)
 |zero (e:Row) (b o:Nat):yf m (.Eu e 0) b o []
 |succ {b o n:Nat} {e:Row} {p1 p2:ao} (he:yf m (.kV e) b o p1) (hr:yf m (.Eu e n) b (o+e.aP) p2):yf m (.Eu e (n+1)) b o (p1++p2)
def yf.nL{m:E}{K:YN}{f o:Nat}{e:ao}(h:yf m K f o e):∀p∈e,∃n,aR m p.1 p.2=some (vi n):=by
 induction h with
 |nil=>simp
 |int h c d b=>
  intro p a;rcases aY.1 a with rfl|a
  .exact⟨_,h⟩
  .exact b p a
 |sl h i g d b c=>
  intro p a;rcases bR.1 a with a|a
  .exact b p a
  .exact c p a
 |zero=>simp
 |succ g d b c=>
  intro p a;rcases bR.1 a with a|a
  .exact b p a
  .exact c p a
def yf.lt{m:E}{K:YN}{b o:Nat}{a:ao}(h:yf m K b o a):∀p∈a,p.1<m.size:=λp d=>let⟨_,c⟩:=h.nL p d;qv c
theorem Z3(n:Int)(s:N):vi n≠s.v:=by cases s<;>simp[vi,N.v]
def yf.ae8{m f:E}{r:Int}{q:ao}(i:QP m r q f)(u:∀p∈q,∃n,aR m p.1 p.2=some (vi n)){K:YN}{b o:Nat}{g:ao}(h:yf m K b o g):yf f K b o g:=by
 induction h with
 |nil=>exact .nil _ _
 | @int b o t p n h a e c=>
  have d:=qv h;by_cases l:(b,o)∈q
  .grind [QP.pS,yf.int,QP.CL]
  .grind [yf.int,QP.iu,QP.CL]
 | @sl b o p t v p2 n h k j e a c=>
  have d:=qv h;refine .sl (s:=n) ?_ k a c;rw[i.iu b o d λl=>?_]
  .exact h
  .grind [Z3,Option.some.inj]
 |zero=>exact .zero _ _ _
 |succ j e a c=>exact .succ a c
def yf.ext{m a:E}(d:J m a){K:YN}{b o:Nat}{c:ao}(h:yf m K b o c):yf a K b o c:=h.ae8 (QP.gD d 0) bO
end Go.Vc
namespace Go.Proofs.YtbbbdejieenniaaGreat
open Go.Vc
end Go.Proofs.YtbbbdejieenniaaGreat
end
namespace Go.Proofs.YtbbbdejieenniaaGreat
open Go.Vc
section
section
variable{m:E}{s t:N}{l r:ab}
def Ka(c:bd m s l)(e:bd m t r):gK dN 32 [s.v,t.v] m (l=r):=by
 apply Ei;have o:=c.aS;have v:=e.aS;refine⟨λi=>fW (λh=>?_) di,λi=>?_⟩
 .grind
 .have u:l.length=r.length:=cG;refine ik (n:=l.length) (o▸c.kA) (λk a=>J m a/\l.take k=r.take k) ⟨di,bO⟩ ?_;rintro k w I μ q ⟨a,j⟩ p
  refine⟨λd=>?_,λd=>?_⟩
  .simp only[bh]at d;let⟨y,f⟩:=dY l k;let⟨z,g⟩:=dY r k;refine⟨V,V,y,by simpa using a.aR (c.D f),V,V,z,by simpa using a.aR (e.D g),λb=>fW (λh=>?_) a,λb=>p V _ ⟨a,?_⟩⟩
   .grind
   .simp at b;rw[bX f,bX g,j,b]
  grind [decide_eq_false_iff_not,eW]
def vn(p:bd m s l)(q:bd m t r)(c b f d e g:Int):gK dN 10 [.agg #[vi c,vi b,vi f,s.v],.agg #[vi d,vi e,vi g,t.v]] m (c=d/\b=e/\f=g/\l=r):=by
 apply Ak;simp -zeta only[dU];intro u n;let⟨a,o⟩:=fN (a:=u) (c:=n) rfl rfl;clear_value n;refine⟨λi=>⟨λj=>⟨λk=>?_,λk=>fW (λh=>by simp[h]at k) a⟩,λj=>fW (λh=>by simp[h]at j) a⟩,λi=>fW (λh=>by simp[h]at i) a⟩;exact(Ka (p.ext a) (q.ext a)).bK di o λb w v h _=>⟨b,rfl,lg cG (a.O h)⟩
end
variable{m:E}{b P:Nat}{c:N}{a:ad}
def Ok(d:Rd b c P m)(i:P+2<=10^16):bJ dN 46 [vp b 0] m λv f=>(∃k,v=vi k)/\Fz [b] m f:=by
 apply Ho (b,0);refine(dW d V 12).aO λ_ j⟨k,e,_,_,g,a⟩=>⟨k,e,?_⟩;intro l;refine(HN (Rs.mk a g) V [40,40,k,0,3,20,40,41,-1] rfl rfl bO).aO λ_ n⟨t,e,_,h,_⟩=>⟨t,e,⟨t,rfl⟩,h.f⟩
def JC.ext{a:E}{cF:N}(h:JC m cF)(x:J m a):JC a cF:=⟨h.1,λk d=>let⟨v,b,c,g⟩:=h.2 k d;⟨v,b,c,x.aR g⟩⟩
def DR(a:ad)(m:E)(v:Value)(b:E):Prop:=∃d p c k,v=.tuple #[.agg #[d.v,p.v],vi k]/\iF (dg a b) d p c/\J m b
def C5{cF:N}(z:JC m cF)(H:∀n∈a,n<m.size):bJ dN 23 [cF.v] m (DR a m):=by
 apply ys;simp -zeta only[dU];intro b;obtain⟨j,O⟩:=pu b;clear_value b;refine(Mk (z.ext j)).aO λ_ L⟨c,e,v,k⟩=>⟨k.fq cG,(b.size,0),e,?_⟩;have K:=v.lt;have P:=k.aP;refine(NG (a:=m.size::b.size::a) (λn I=>?_) bO v (by simp[Cg])).aO λ_ h⟨o,u,x,e,w,_,F,g⟩=>⟨g.fq cG,o,u,e,?_⟩
 .grind
 have Q:=g.aP;intro M i;have l:J h i:=by grind [J.push,J.aV]
 have R:i.size=h.size+1:=by grind [bD]
 clear_value i;refine(Ok (F.ext l) (by simp[Cg])).aO λ_ t⟨⟨r,e⟩,d⟩=>⟨d.fq cG,r,e,bB (d.bC _ V cG) _,bB (d.bC _ V cG) _,?_⟩;intro D;have s:Le (dg (m.size::b.size::a) h) (dg a D):=λf E G C=>by
  let⟨A,B⟩:=gV.1 C;have:=d.eU (S:=m.size::b.size::a) bO f E G (gV.2 ⟨A,l.aR B⟩);grind [gV,bB,cg]
 have p:Fz [b.size] b t:=(((k.fz _).O g).O (l.fz _)).O d;have y:J m t:=⟨by have:=p.aP;omega,λf q=>(p.bC f (j.lt q) cG).trans (j.bC f q)⟩;exact⟨o,u,⟨x.1,x.2⟩,r,rfl,⟨w.1.le s,kY.le s w.2⟩,y.aV bW _ _⟩
def IF{cF:N}(h:JC m cF):bJ dN 7 [cF.v] m (DR [] m):=by
 apply Bz;simp -zeta only[dU];intro c;obtain⟨e,r⟩:=pu c;clear_value c;refine(C5 (a:=[m.size]) (h.ext e) cG).aO λ_ j⟨d,p,i,k,g,a,f⟩=>⟨f.fq cG,d,p,k,g,?_⟩;intro l;have b:Le (dg [m.size] j) (dg [] l):=λn q v o=>by
  grind [gV,bB,cg]
 exact⟨d,p,i,k,rfl,⟨a.bQ.le b,kY.le b a.cO⟩,(e.O f).aV bW _ _⟩
end
def tab(n:Nat)(f:Nat->Int):ab:=(List.range n).map f
@[grind cases] structure acy (h:ah):Prop where
 nP:qR h
 kG:∀c∈h,tv h c
 qC:∀(a:Nat)(c:dD),h[a]? =some c->0<c.ct->qC h a<=c.ct
 Ib:ac7 h
@[grind cases] structure Vp (h:ah) (f:bS):Prop where
 eN:∀(k:Nat)(w o:Int),f.aT[k]? =some w->f.bF[k]? =some o->(mI w\/1000<=w)/\(0<=o/\o<=999999)/\(0<o->iH h w)
@[grind cases] structure aa7 (im:cV) (h:ah) (prev:Option bS) (f:bS):Prop where
 fY:0<=f.fY/\f.fY<im.cO.length
 pc:0<=f.pc/\f.pc<(dy im f.fY).cF.length
 lr:(f.aT.length:Int)=(dy im f.fY).aT
 lo:(f.bF.length:Int)=(dy im f.fY).aT
 lh:(f.cQ.length:Int)=(dy im f.fY).aT
 aT:Vp h f
 first:prev=none->f.br=0
 zw:∀p,prev=some p->0<=f.br/\f.br<p.bF.length/\D p.bF f.br=0
def SR(a:ak):Nat->Option bS
 |0=>none
 |k+1=>a[k]?
@[grind cases] structure acz (h:ah) (fs:ak):Prop where
 dO:∀f∈fs,∀w∈f.cQ,w=0\/(1000<=w/\ix w<h.length)
 eG:∀(i:Nat)(c:dD),h[i]? =some c->c.ct<0->gG fs i=1
 ug:∀(i:Nat)(c:dD),h[i]? =some c->0<=c.ct->gG fs i=0
@[grind cases] structure aba (im:cV) (s:St):Prop where
 gW:gC im
 dT:0<=s.dT/\s.dT<=3
 cz:s.dT=0<->s.bn=[]
 je:mI s.je
 MH:s.je≠0->s.dT=0
 dG:0<=s.dG/\s.dG<=40
 df:0<=s.df/\s.df<=s.dG
 mQ:(s.bn.length:Int)<=s.df+1
 cC:∀n∈s.cC,mI n
 aQ:acy s.aQ
 bn:∀(k:Nat)(f:bS),s.bn[k]? =some f->aa7 im s.aQ (SR s.bn k) f
 cQ:acz s.aQ s.bn
 ae4:∀(a:Nat)(c:dD),s.aQ[a]? =some c->0<c.ct->c.ct=qC s.aQ a+oF s.bn a
def Zn{a:ak}{f:bS}{b:Nat}(c:f∈a):kC f.cQ b<=gG a b:=by
 induction a with
 |nil=>simp at c
 |cons g a d=>
  simp only[gG];rcases aY.1 c with rfl|c
  .have:=DW a b;omega
  .have:=d c;have:=mR g.cQ b;omega
def Vn(w:Int):Prop:=-9223372036854775808<=w/\w<=9223372036854775807
def aeP(h:ah):Prop:=∀c∈h,∀w∈c.bU,Vn w
section
variable{a b:Nat}
def OZ(mk:Nat->Bool):Nat->Nat
 |0=>0
 |n+1=>OZ mk n+(if mk n=true then 1 else 0)
theorem O0{mk a:Nat->Bool}:∀{n:Nat},(∀i,i<n->mk i=a i)->OZ mk n=OZ a n
 |0,_=>rfl
 |n+1,h=>by simp only[OZ];rw[O0 λi b=>h i V,h n V]
def Uw(mk:Nat->Bool)(a:Nat):Nat->Bool:=λx=>if x=a then true else mk x
theorem RO(mk:Nat->Bool)(a:Nat):Uw mk a a=true:=ba rfl
theorem Bu{mk:Nat->Bool}(h:b≠a):Uw mk a b=mk b:=aU h
theorem Gb{mk:Nat->Bool}(h:mk b=true):Uw mk a b=true:=by grind [Uw]
def O1{mk:Nat->Bool}{a:Nat}(h:mk a=false):∀{n:Nat},a<n->OZ (Uw mk a) n=OZ mk n+1
 |0,c=>absurd c (Nat.not_lt_zero _)
 |n+1,c=>by
  simp only[OZ];rcases eJ a n with b|b
  .rw[O1 h b,Bu V];omega
  .grind [RO,O0,Bu]
def YO(h:ah)(mk:Nat->Bool):Prop:=
 ∃t:ag,(∀j,mk j=true->t j<=OZ mk h.length)/\∀(i:Nat)(c:dD),h[i]? =some c->mk i=true->∀w∈c.bU,1000<=w->mk (ix w)=true/\t (ix w)<t i
def aeI(mk:Nat->Bool)(a:ab):Prop:=∀w∈a,1000<=w->mk (ix w)=true
def YO.eB{h:ah}{mk:Nat->Bool}(k:YO h mk){c:dD}(b:h[a]? =some c)(e:mk a=false)(f:aeI mk c.bU):YO h (Uw mk a):=by
 let⟨t,o,p⟩:=k;have j:=bA b;have n:=O1 e j;refine⟨λx=>if x=a then OZ mk h.length+1 else t x,λv r=>?_,λi d hd q w m l=>?_⟩
 .grind [Bu]
 .by_cases g:i=a
  .subst g;rw[b]at hd;simp at hd;subst hd;have u:=f w m l;have s:ix w≠i:=cG;grind [Gb]
  grind [Bu,ix,Gb]
end
@[grind cases] structure j9 (m:E) (cC hp fr:N) (s:St):Prop where
 cC:bd m cC s.cC
 aQ:jF m hp s.aQ
 bn:oU m fr s.bn
def j9.ext{m d:E}{cC c b:N}{s:St}(h:j9 m cC c b s)(a:J m d):j9 d cC c b s:=⟨h.cC.ext a,jF.ext a h.aQ,oU.ext a h.bn⟩
def acs(f:bS):Prop:=(∀w∈f.aT,Vn w)/\(∀w∈f.bF,Vn w)/\(∀w∈f.cQ,Vn w)
@[grind cases] structure XI (s:St):Prop where
 df:Vn s.df
 aQ:aeP s.aQ
 bn:∀f∈s.bn,acs f
 lh:s.aQ.length<=10000000
 lf:s.bn.length<=10000000
 lr:∀f∈s.bn,f.aT.length<=10000000/\f.bF.length<=10000000/\f.cQ.length<=10000000
def stV(s:St)(cC b a:N):Value:=.agg #[vi s.dT,vi s.je,vi s.df,vi s.dG,cC.v,b.v,a.v]
section
variable{m:E}{d p cC b a:N}{c:cV}{s:St}
end
section
variable{m:E}{d p cC b a:N}{c:cV}{s:St}
@[grind cases] structure acu (h:ah) (fs:ak):Prop where
 aS:∀f∈fs,f.bF.length=f.aT.length
 aT:∀f∈fs,Vp h f
def acu.bF{h:ah}{a:ak}(H:acu h a){f:bS}(b:f∈a):∀o∈f.bF,0<=o/\o<=999999:=λo d=>by
 let⟨k,c⟩:=cX.1 d;let⟨w,e⟩:=dY f.aT k (Xm (bA c) (H.aS f b));grind [acu.aT,Vp.eN]
end
section
variable{b:ah}{d:dD}{a:Nat}{W:ad}{e:Nat->Int}
@[grind cases] structure Tx (h:ah) (c:dD):Prop where
 lo: -1<=c.ct
 jJ:0<=c.jJ/\c.jJ<=99
 fl:c.bU.length<=3
 O5:c.ct<1->c.jJ=0
 kN:c.ct=0->c.bU=[]
 dO:∀w∈c.bU,zr h w/\(c.ct<0->w=0)
def Tx.ok(a:Tx b d)(e:d.ct<=999999):tv b d:=
 ⟨a.fl,a.lo,e,λhd=>⟨a.O5 hd,λw c=>by
  by_cases f:d.ct<0
  .exact(a.dO w c).2 f
  .rw[a.kN V]at c;simp at c,a.kN⟩,λ_=>⟨λw c=>(a.dO w c).1,a.jJ⟩⟩
def tv.v(a:tv b d):Tx b d:=by
 refine⟨a.lo,?_,a.fl,λhd=>(a.O5 hd).1,λe=>(a.O5 V).2.2 e,λw c=>⟨?_,λf=>(a.O5 V).2.1 w c⟩⟩
 .grind [tv.yH,tv.O5]
 .by_cases g:0<d.ct
  .grind [tv.yH]
  .have:=(a.O5 V).2.1 w c;exact bu (by subst this;exact⟨cH,cH⟩)
def Tx.cases(c:Tx b d){w:Int}(e:w∈d.bU):iH b w\/w<1000:=by
 rcases(c.dO w e).1 with a|a
 .have:=a.2;exact bG V
 .exact bu a
def PU(mk:Nat->Bool):Nat->ah->Nat->Int
 |_,[],_=>0
 |i,d::b,a=>(if mk i=true then 0 else kC d.bU a)+PU mk (i+1) b a
def Ut(mk:Nat->Bool):∀(i:Nat)(b:ah)(a:Nat),0<=PU mk i b a
 |_,[],_=>dR 0
 |i,d::b,a=>by have:=Ut mk (i+1) b a;have:=mR d.bU a;simp only[PU];split<;>omega
def Us{mk:Nat->Bool}:∀{e:Nat}{b:ah}{f:Nat}{d:dD},b[f]? =some d->mk (e+f)=false->∀a,kC d.bU a<=PU mk e b a
 |_,[],_,_,b,_,_=>by simp at b
 |e,j::b,0,d,g,l,a=>by
  simp at g;subst g;have:=Ut mk (e+1) b a;grind [PU]
 |e,j::b,f+1,d,g,l,a=>by
  have:=Us (mk:=mk) (e:=e+1) (b:=b) (f:=f) (d:=d) cG cG a;have:=mR j.bU a;grind [PU]
def acB(b:ah)(mk:Nat->Bool):Prop:=
 ∃t:ag,(∀j,mk j=true->t j<=OZ mk b.length)/\∀(i:Nat)(d:dD),b[i]? =some d->∀w∈d.bU,1000<=w->mk (ix w)=true->mk i=true/\t i<t (ix w)
def acB.eB{mk:Nat->Bool}(v:acB b mk)(u:a<b.length)(k:mk a=false)(B:PU mk 0 b a=0):acB b (Uw mk a):=by
 let⟨t,n,s⟩:=v;have r:=O1 k u;have y:∀(c:Nat)(d:dD),b[c]? =some d->(1000+(a:Int))∈d.bU->mk c=true:=λc d f g=>by
  cases e:mk c
  .have g1:=Us (mk:=mk) (e:=0) f (by rw[fB];exact e) a;have g2:=yQ g;omega
  .rfl
 refine⟨λx=>if x=a then OZ mk b.length+1 else t x,λz o=>?_,λc d f w g q p=>?_⟩
 .simp only[r];split
  .omega
  .rename_i h;rw[Bu h]at o;have:=n z o;omega
 .by_cases h:ix w=a
  .have e:=y c d f (by rw[<-h,nC q];exact g);have l:c≠a:=λj=>by rw[j,k]at e;cases e
   simp only[ba h,aU l];exact⟨Gb e,oh (n c e)⟩
  .rw[Bu h]at p;let⟨m,A⟩:=s c d f w g q p;have l:c≠a:=λj=>by rw[j,k]at m;cases m
   simp only[aU h,aU l];exact⟨Gb m,A⟩
@[grind cases] structure DC (h:ah) (mk:Nat->Bool) (W:ad) (lf:Nat->Int):Prop where
 Xk:W.Nodup
 un:∀a∈W,a<h.length/\mk a=false
 mF:∀a,a<h.length->(lf a=0<->(mk a=true\/a∈W))
def PE:∀(n:Nat)(W:ad),W.Nodup->(∀a∈W,a<n)->W.length<=n
 |0,[],_,_=>bW
 |0,a::_,_,b=>absurd (b a bO) (Nat.not_lt_zero _)
 |n+1,W,hd,b=>by
  by_cases d:n∈W
  .have e:=PE n (W.erase n) (hd.erase n) λa c=>by
    have:=hd.mem_erase_iff.1 c;have:=b a this.2;omega
   grind [List.length_erase_of_mem]
  .have:=PE n W hd λa c=>by
    have:=b a c;have:a≠n:=λe=>d (e▸c);omega
   omega
def DC.aS{mk:Nat->Bool}(K:DC b mk W e):W.length<=b.length:=PE _ _ K.Xk λa c=>(K.un a c).1
def DC.pop{mk:Nat->Bool}(K:DC b mk (W++[a]) e):DC b (Uw mk a) W e:=by
 constructor<;>grind [List.nodup_append,DC.Xk,DC.un,List.mem_append_left,Bu,DC.mF,RO]
theorem DC.ns{mk:Nat->Bool}{c:Nat->Int}(K:DC b mk W e)(g:a<b.length)(h:∀x,c x=if x=a then e x -1 else e x)(j:0<e a):
 (c a=0->DC b mk (W++[a]) c)/\(c a≠0->DC b mk W c):=by
 have i:mk a≠true/\a∉W:=by
  grind [DC.mF]
 refine⟨λf=>⟨?_,λx d=>?_,λx d=>?_⟩,λf=>⟨K.Xk,K.un,λx d=>?_⟩⟩
 .grind [List.nodup_append,DC.Xk]
 .grind [DC.un]
 .grind [DC.mF]
 .grind [DC.mF]
end

section
variable{a b:Nat}{m d:E}
@[grind cases] structure aah (im:cV) (f:bS):Prop where
 fY:0<=f.fY/\f.fY<im.cO.length
 pc:0<=f.pc/\f.pc<(dy im f.fY).cF.length
 lr:(f.aT.length:Int)=(dy im f.fY).aT
 lo:(f.bF.length:Int)=(dy im f.fY).aT
 lh:(f.cQ.length:Int)=(dy im f.fY).aT
 eN:∀(k:Nat)(w o:Int),f.aT[k]? =some w->f.bF[k]? =some o->(mI w\/1000<=w)/\(0<=o/\o<=999999)
def aah.bF{c:cV}{f:bS}(h:aah c f):∀o∈f.bF,0<=o/\o<=999999:=λo b=>by
 let⟨k,a⟩:=cX.1 b;have:=bA a;have d:=h.lr;have e:=h.lo;let⟨w,g⟩:=dY f.aT k;grind [aah.eN]
@[grind cases] structure QL (a b:Nat) (m m':E):Prop where
 aP:m.size<=m'.size
 bC:∀c,c<m.size->c≠a->c≠b->m'[c]? =m[c]?
def QL.cZ(a b:Nat)(m:E):QL a b m m:=by constructor<;>grind
def QL.ext{c:E}(h:QL a b m c)(e:J c d):QL a b m d:=by constructor<;>grind [QL.aP,J.aP,J.bC,QL.bC]
def QL.O{c:E}(h:QL a b m c)(e:QL a b c d):QL a b m d:=by constructor<;>grind [QL.aP,QL.bC]
def QL.aV{d:E}(h:QL a b m d){c:Nat}(e:c=a\/c=b)(o:Nat)(l:ae):QL a b m (aV d c o l):=
 by constructor<;>grind [bD,QL.aP,cg,QL.bC]
theorem QL.Xw{c d:E}(h:QL a b m d)(g:J c m)(e:c.size<=a)(f:c.size<=b):J c d:=
 by constructor<;>grind [J.aP,QL.aP,QL.bC,J.lt,J.bC]
@[grind cases] structure aeX (h:ah) (f:bS):Prop where
 bF:∀(k:Nat)(w o:Int),f.aT[k]? =some w->f.bF[k]? =some o->0<o->iH h w
 cQ:∀w∈f.cQ,w≠0->1000<=w/\∃c,h[ix w]? =some c/\c.ct<0
@[grind cases] structure afm (m:E) (ob hb n:Nat) (fo fh:Nat->Int):Prop where
 bF:dJ m ob bE ((tab n fo).map Ce.i)
 cQ:dJ m hb bE ((tab n fh).map Ce.i)
 ne:ob≠hb
end
section
def aeO(a:ak)(k:Nat)(f:bS):Prop:=(SR a k=none->f.br=0)/\∀p,SR a k=some p->0<=f.br/\f.br<p.bF.length/\D p.bF f.br=0
@[grind cases] structure acw (im:cV) (s:St) (k:Nat) (f:bS):Prop where
 v:aah im f
 br:aeO s.bn k f
 tal:aeX s.aQ f
def acw.ok{b:cV}{s:St}{k:Nat}{f:bS}(h:acw b s k f):aa7 b s.aQ (SR s.bn k) f:=
 ⟨h.v.fY,h.v.pc,h.v.lr,h.v.lo,h.v.lh,⟨λj w o c a=>⟨(h.v.eN j w o c a).1,(h.v.eN j w o c a).2,h.tal.bF j w o c a⟩⟩,h.br.1,h.br.2⟩
def aba.w{b:cV}{s:St}(h:aba b s){k:Nat}{f:bS}(e:s.bn[k]? =some f):acw b s k f:=by
 have F:=h.bn k f e;refine⟨⟨F.fY,F.pc,F.lr,F.lo,F.lh,λj w o c d=>⟨(F.aT.eN j w o c d).1,(F.aT.eN j w o c d).2.1⟩⟩,⟨F.first,F.zw⟩,λj w o c d=>(F.aT.eN j w o c d).2.2,λw c q=>?_⟩;let⟨i,n⟩:=(h.cQ.dO f (aZ e) w c).resolve_left q;let⟨g,m⟩:=jk n;refine⟨i,g,m,Int.not_le.1 λp=>?_⟩;have r:=h.cQ.ug _ g m p;have t:=Zn (aZ e) (b:=ix w);have u:=yQ (l:=f.cQ) (f:=ix w) (by rw[nC i];exact c);omega
variable{m:E}{d p cC e c:N}{b:cV}{s:St}
end
end Go.Proofs.YtbbbdejieenniaaGreat
section
namespace Go.Vc
def jt.nA{m:E}{b o:Nat}{l r:ae}(h:jt m b o l)(k:jt m b (o+l.length) r):jt m b o (l++r):=λi d a=>by
 rcases eJ i l.length with c|c
 .rw[dX c]at a;exact h i d a
 .rw[dL c]at a;have:=k _ d a;grind [List.length]
def fU.Wf{α:Type}{m:E}{b:Nat}{R:ae->α->Prop}{s:N}{l:List α}(h:fU m b R s l)(j:∀c x,R c x->c.length=b):∃a,fK b R a l/\jt m s.bq s.off a.flatten:=by
 have:∀k,k<=l.length->∃a,fK b R a (l.take k)/\jt m s.bq s.off a.flatten:=by
  intro k;induction k with
  |zero=>intro _;exact⟨[],by simpa using fK.gD b R,λi e d=>by simp at d⟩
  |succ k o=>
   intro p;let⟨a,d,e⟩:=o V;let⟨x,g⟩:=dY l k;let⟨c,f,i⟩:=h.kV k x g;refine⟨a++[c],by rw[bX g];exact d.By (j c x f) f,?_⟩;rw[uS];refine e.nA ?_;have n:a.flatten.length=k*b:=by rw[eE d.aP,d.aS,qO,my V]
   rw[n];simpa using i
 let⟨a,d,e⟩:=this l.length bW;grind [List.take_length]
end Go.Vc
namespace Go.Proofs.YtbbbdejieenniaaGreat
open Go.Vc
def jo.ZM{m c:E}{s:N}{l:ae}{f j:Nat}(e:jo m c f j s l)(i:J m c){a:ag}(g:∀b,m.size<=b->a b=0)(k:Nat):∃d,dZ (λ_=>False) a m d c/\iJ d c f j k s l/\∀b,d b=a b\/d b=k:=by
 rcases e.D with h|⟨b,n,tail,h,h2,h3,h4,h5⟩
 .exact⟨a,dZ.fV i g,iJ.jM e λo=>absurd h o,λb=>bu rfl⟩
 .refine⟨p7 a b k,dZ.p7 i g h2 h3.lt k,iJ.jM e λ_=>by rw[h];exact iP,λn=>?_⟩;grind [iP,fO]
@[grind cases] structure afj (U:Nat) (ro:ag) (m:E) (r:N) (h:ah) (css0 css:List ae) (k:Nat):Prop where
 rE:iJ ro m Cf 3 3 r css.flatten
 aS:css.length=h.length
 aP:∀cs∈css,cs.length=3
 cz:∀(j:Nat)(cs:ae)(c:dD),j<k->css[j]? =some cs->h[j]? =some c->MM U ro m cs c
 mC:∀j,k<=j->css[j]? =css0[j]?
 sep:∀(i j:Nat)(ci cj:ae)(a b:N),i<k->j<k->css[i]? =some ci->css[j]? =some cj->ci[2]? =some (.s a)->cj[2]? =some (.s b)->i≠j->a.len≠0->b.len≠0->a.bq≠b.bq
end Go.Proofs.YtbbbdejieenniaaGreat
end
namespace Go.Proofs.YtbbbdejieenniaaGreat
open Go.Vc
section
variable{a e:ag}{m g d:E}{p:Nat->Prop}
@[grind cases] structure Bs (m0:E) (ro:ag) (m:E):Prop where
 da:J m0 m
 ni:∀b,b<m0.size->ro b=0
 bI:∀b,m.size<=b->ro b=0
@[grind cases] structure uw (m0:E) (ro:ag) (m:E) (cC hp fr:N) (s:St):Prop where
 bs:Bs m0 ro m
 cC:iJ ro m bE 1 2 cC (s.cC.map Ce.i)
 aQ:gF m0.size ro m hp s.aQ
 bn:sk ro m fr s.bn
@[grind cases] structure Lc (s:St):Prop where
 cC:s.cC.length<=900000000
 fl:∀c∈s.aQ,c.bU.length<=3
 aQ:s.aQ.length<=900000000
 mQ:s.bn.length<=1000
 bn:∀f∈s.bn,f.aT.length<=1000000/\f.bF.length<=1000000/\f.cQ.length<=1000000
abbrev Ch2:=dZ (λk=>2<=k)
def Ch2.VZ(h:Ch2 a m e g)(c:∀b,b<m.size->a b<=1):dZ (λ_=>False) a m e g:=by constructor<;>grind [dZ.aP,dZ.j8,dZ.bI,dZ.fL]
theorem dZ.Xw(h:dZ (λ_=>False) a m e g):J m g:=⟨h.aP,λb c=>h.fL b c id⟩
def Bs.gX(B:Bs d a m)(h:dZ (λ_=>False) a m e g):Bs d e g:=by constructor<;>grind [Bs.da,J.O,dZ.Xw,dZ.j8,J.lt,Bs.ni,dZ.bI]
theorem dZ.C3(h:dZ p a m e g){l:ad}(d:∀b∈l,b<m.size/\¬p (a b)):gL l m g:=λb c=>h.fL b (d b c).1 (d b c).2
@[grind cases] structure Cpy (m0:E) (ro:ag) (m:E) (ro':ag) (M:E) (q r:N) (s:St):Prop where
 gX:Ch2 ro m ro' M
 cC:iJ ro' M bE 1 2 q (s.cC.map Ce.i)
 aQ:gF m0.size ro' M r s.aQ
theorem Cpy.ns{e f:ag}{b c:E}{q r:N}{s:St}(h:Cpy d a m e b q r s)(g:dZ p e b f c)(i:∀k,p k->4<=k):Cpy d a m f c q r s:=
 by constructor<;>grind [Cpy.gX,dZ.O,dZ.aO,Cpy.cC,iJ.gX,Cpy.aQ,gF.gX]
@[grind cases] structure afi (ro:ag) (m:E) (r:N) (fs:ak) (css0 css:List ae) (k:Nat):Prop where
 rE:iJ ro m iz 6 4 r css.flatten
 aS:css.length=fs.length
 aP:∀cs∈css,cs.length=6
 cz:∀(j:Nat)(cs:ae)(f:bS),j<k->css[j]? =some cs->fs[j]? =some f->YB ro m j cs f
 mC:∀j,k<=j->css[j]? =css0[j]?
end
section
variable{g:ag}{e:E}
abbrev z7:ae:=[.i 0,.i 0,.i 0,.i 0,.s .nil,.s .nil,.s .nil]
@[grind cases] structure TD (m0:E) (ro:ag) (m m2:E) (s:St) (ro':ag) (M:E) (q r:Option N) (ob:Option Nat):Prop where
 gX:Ch2 ro m ro' M
 ext:J m2 M
 no3:r=none->∀b,ro' b≠3
 bT:∀b,m.size<=b->b<m2.size->ro' b=8
 cC:∀x,q=some x->iJ ro' M bE 1 2 x (s.cC.map Ce.i)
 aQ:∀x,r=some x->gF m0.size ro' M x s.aQ
 ob:∀x,ob=some x->m2.size<=x/\ro' x=8/\dJ M x vd z7
variable{h:E}{i:ag}{m f:E}{s:St}{d:ag}{M:E}{q r:Option N}{j:Option Nat}
def TD.og(k:TD h i m f s d M q r j)(n:dZ (λa=>a=3) d M g e)(p:J M e)(C:∀b,m.size<=b->b<f.size->g b=8){u o:Option N}{t:Option Nat}(z:r=none\/dZ (λ_=>False) d M g e)(B:o=none->∀b,g b≠3)
 (w:∀x,u=some x->q=some x\/iJ g e bE 1 2 x (s.cC.map Ce.i))(y:∀x,o=some x->r=some x\/gF h.size g e x s.aQ)(A:∀x,t=some x->j=some x\/(f.size<=x/\g x=8/\dJ e x vd z7)):TD h i m f s g e u o t:=
 ⟨k.gX.O (n.aO λa c=>V),k.ext.O p,B,C,λx c=>(w x c).elim (λa=>(k.cC x a).gX n cH) id,
  λx c=>(y x c).elim (λa=>z.elim (λl=>by rw[l]at a;cases a) λl=>(k.aQ x a).gX l id id) id,
  λx c=>(A x c).elim (λa=>by
   let⟨v,b,l⟩:=k.ob x a;exact⟨v,by rw[n.j8 _ l.lt];exact b,l.ext p⟩) id⟩
def TD.Zv(a:TD h i m f s d M q r j){p:Nat->Prop}(c:dZ p d M g e):∀b,m.size<=b->b<f.size->g b=8:=by grind [dZ.j8,TD.ext,J.lt,TD.bT]
def TD.c(b:TD h i m f s d M none r j){x:N}(n:jo M e bE 1 x (s.cC.map Ce.i))(k:J M e):∃g,TD h i m f s g e (some x) r j:=by
 let⟨g,C,A,l⟩:=jo.ZM n k b.gX.bI 2;exact⟨g,b.og (C.aO λ_=>False.elim) k (b.Zv C) (bG C) (λa c=>Xm (l c) (b.no3 a c)) (λy a=>bG cG) (λy a=>bu a) λy a=>bu a⟩
def TD.a(b:TD h i m f s d M q r j)(c:J M e):TD h i m f s d e q r j:=
 have C:dZ (λ_=>False) d M d e:=dZ.fV c b.gX.bI
 b.og (C.aO λ_=>False.elim) c (b.Zv C) (bG C) b.no3 (λy a=>bu a) (λy a=>bu a) λy a=>bu a
def TD.b(b:TD h i m f s d M q r none){e:E}(a:e=M.push (.cells (de z7) vd)):∃g,TD h i m f s g e q r (some M.size):=by
 have c:J M e:=by grind [J.push]
 have C:dZ (λ_=>False) d M (p7 d M.size 8) e:=dZ.p7 c b.gX.bI bW cG 8;refine⟨_,b.og (C.aO λ_=>False.elim) c (b.Zv C) (bG C) (λl j=>?_) (λy a=>bu a) (λy a=>bu a) λy k=>bG ?_⟩
 .grind [Array.size,iP,fO]
 .grind [TD.ext,J.aP,iP,dJ.push]
end
section
variable{n e:Nat}{mx M f:E}{l:ae}
def Wx:St:=⟨0,0,0,0,[],[],[]⟩
structure Run where
 s:St
 ok:Bool
def eM.rU{g:cV}{s:St}(h:eM g s)(a:Sm n s)(b:n<=900000000):Lc s:=by
 constructor<;>grind [Sm.cC,eM.aQ,iW.iu,tv.fl,Sm.aQ,eM.mQ,eM.df,eM.dG,eM.bn,fX.Aj,eM.gW,fX.lr,fX.lo,fX.lh,ny.aT]
def XI.sm{s:St}(h:XI s)(a:s.aQ.length<=n)(b:s.cC.length<=n):Sm n s:=⟨a,b,λg c w d=>((h.bn g c).1 w d).2⟩
section
variable{k:E}{o:ag}{m:E}{cC b a:N}{s:St}
def uw.PR(h:uw k o m cC b a s)(c:Lc s):j9 m cC b a s:=
 ⟨h.cC.nL (oh c.cC),h.aQ.kG (oh c.aQ),h.bn.PR (oh c.mQ) c.bn⟩
def uw.eH(h:uw k o m cC b a s){d:E}(i:J m d){c:Nat}{f:ae}(g:m.size<=c)(kb:dJ d c e f):zP k (p7 o c 1) d c e f cC b a s.cC s.aQ s.bn:=by
 have C:dZ (λ_=>False) o m (p7 o c 1) d:=dZ.p7 i h.bs.bI g kb.lt 1;have B:=h.bs.gX C;exact⟨B.da,B.ni,B.bI,kb,iP,h.cC.gX C id,h.aQ.gX C id id,h.bn.gX C λ_ _=>id⟩
def uw.gD{k m:E}(a:J k m):uw k (λ_=>0) m .nil .nil .nil Wx:=
 ⟨⟨a,λ_ _=>rfl,λ_ _=>rfl⟩,⟨by simp[Wx],bO,bu rfl⟩,⟨[],⟨bO,bO,bu rfl⟩,by simpa[Wx]using fK.gD _ _,Sep.gD⟩,sk.VZ⟩
def zP.PR{f e:Nat}{d:ae}(L:zP k o m f e d cC b a s.cC s.aQ s.bn)(c:Lc s):j9 m cC b a s:=
 uw.PR (o:=o) ⟨⟨L.da,L.ni,L.bI⟩,L.cC,L.aQ,L.bn⟩ c
end
theorem iJ.up{a:ag}{m c:E}{d k:Nat}{s:N}(h:iJ a m e d k s l)(i:k≠0)(f:∀b,b<mx.size->a b=0)(g:∀b,mx.size<=b->b<m.size->c[b]? =m[b]?):iJ a c e d k s l:=
 by grind [iJ.fL,Nat.le_of_not_lt,iJ.bq]
theorem uw.Wd{m:E}{r:ag}{cC b a:N}{s:St}(i:uw mx r M cC b a s)(c:m.size<=mx.size)(z:M.size<=f.size)(g:∀d,mx.size<=d->d<M.size->f[d]? =M[d]?)(x:J m f):uw m r f cC b a s:=by
 have h:=i.bs.ni;refine⟨⟨x,λd j=>h d V,λd j=>i.bs.bI d V⟩,i.cC.up cH h g,?_,?_⟩
 .let⟨k,t,a2,a3⟩:=i.aQ;refine⟨k,t.up cH h g,a2.aO λn y⟨l,v,o,p⟩=>⟨l,v,jV o λj=>g _ (p j).2.1 (lG o j),λj=>?_⟩,a3⟩;let⟨g1,g2,u,tail,w,q⟩:=p j;exact⟨g1,V,u,tail,w,q.congr (g _ g2 q.lt)⟩
 .let⟨k,j⟩:=i.bn;exact⟨k,j.rE.up cH h g,j.aS,j.aP,λt n l o p=>by
   let⟨v,u,q,e,b1,b2,b3⟩:=j.eN t n l o p;exact⟨v,u,q,e,b1.up V h g,b2.up V h g,b3.up V h g⟩⟩
def uw.bT{m:E}{d:ag}{cC b a:N}{s:St}(h:uw mx d M cC b a s)(c:J m mx){nb:Nat}(e:m.size<=nb)(g:nb<mx.size){o:Nat}:uw m d (aV M nb o l) cC b a s:=
 h.Wd c.aP (ML (bD _ _ _ _).symm) (λf i _=>cg _ _ _ _ V) ((c.O h.bs.da).aV e _ _)
def uw.ext{c:E}{d:ag}{cC b a:N}{s:St}(h:uw c d M cC b a s)(e:J M f):uw c d f cC b a s:=by grind [uw.Wd,J.aP,J.bC,uw.bs,Bs.da,J.O]
def Bs.Gu(m:E):Bs m (λ_=>0) m:=by constructor<;>grind [J.cZ]
variable{m:E}{d p cC b a:N}{g:cV}{s:St}
variable(h:iF m d p g)(c:j9 m cC b a s)(i:XI s)(j:s.cC.length<=10000000)
include h c i j
omit h c in
end
section
def uw.old{mx M a:E}{f:ag}{cC d c:N}{s:St}(h:uw mx f M cC d c s)(e:M.size<=a.size)(i:∀b,mx.size<=b->b<M.size->a[b]? =M[b]?):uw (a.extract 0 mx.size) f a cC d c s:=
 have g:=fA h.bs.da.aP e
 h.Wd cG e i (J.QM g)
def zP.old{e M c:E}{l:ag}{f h:Nat}{g:ae}{cC k i:N}{a:St}(L:zP e l M f h g cC k i a.cC a.aQ a.bn)(m:e.size<=f)(n:M.size<=c.size)(j:∀d,e.size<=d->d<M.size->c[d]? =M[d]?):zP (c.extract 0 e.size) l c f h g cC k i a.cC a.aQ a.bn:=
 have b:=uw.old (s:=a) ⟨⟨L.da,L.ni,L.bI⟩,L.cC,L.aQ,L.bn⟩ n j
 ⟨b.bs.da,b.bs.ni,b.bs.bI,L.bT.congr (j _ m L.bT.lt),L.Yp,b.cC,b.aQ,b.bn⟩
variable{S:ad}{m:E}{c P:Nat}{a d p:N}{b:cV}
end
section
variable{q:N}
@[grind cases] structure Mv (n:Nat) (ro:ag) (M:E) (ro':ag) (M':E):Prop where
 aP:M.size<=M'.size
 fL:∀b,b<M.size->n<=b->M'[b]? =M[b]?
 j8:∀b,b<M.size->ro' b=ro b
 bI:∀b,M'.size<=b->ro' b=0
 ni:∀b,b<n->ro b=0
section
variable{n:Nat}{a e:ag}{M d:E}
theorem iJ.mv{b c k:Nat}{s:N}{l:ae}(h:iJ a M b c k s l)(v:Mv n a M e d)(f:k≠0):iJ e d b c k s l:=
 by grind [iJ.fL,Mv.fL,iJ.bq,Nat.le_of_not_lt,Mv.ni,Mv.j8]
theorem gF.mv{h:N}{i:ah}(q:gF n a M h i)(v:Mv n a M e d):gF n e d h i:=by
 let⟨l,j,a2,a3⟩:=q;refine⟨l,j.mv v cH,a2.aO λs r⟨o,m,f,g⟩=>⟨o,m,jV f λb=>v.fL _ (lG f b) (g b).2.1,λb=>?_⟩,a3⟩;let⟨g1,g2,k,tail,p,c⟩:=g b;exact⟨(v.j8 _ c.lt).trans g1,g2,k,tail,p,c.congr (v.fL _ c.lt g2)⟩
theorem YB.mv{i:Nat}{b:ae}{f:bS}(v:Mv n a M e d):YB a M i b f->YB e d i b f:=λ⟨r,o,k,j,c,g,h⟩=>⟨r,o,k,j,c.mv v V,g.mv v V,h.mv v V⟩
def rD.mv{c:N}{g:ak}{f:bS}{r o h:N}{b:List ae}(T:rD a M c g f r o h b)(v:Mv n a M e d):rD e d c g f r o h b:=
 by constructor<;>grind [rD.rE,iJ.mv,rD.aS,rD.aP,rD.eN,YB.mv,rD.aT,rD.bF,rD.cQ]
theorem sk.mv{c:N}{b:ak}(l:sk a M c b)(v:Mv n a M e d):sk e d c b:=by
 let⟨g,h⟩:=l;exact⟨g,h.rE.mv v cH,h.aS,h.aP,λm f i j k=>(h.eN m f i j k).mv v⟩
def rD.cB{c:N}{b:ak}{f g:bS}{r o n m l j:N}{h:List ae}(T:rD a M c b f r o n h)(t:∀d,M.size<=d->a d=0){i:Nat}(v:i<6){d:Ce}
 (u:jh [.i f.fY,.i f.pc,.i f.br,.s r,.s o,.s n] i [d]=[.i g.fY,.i g.pc,.i g.br,.s m,.s l,.s j])(s:iJ a M bE 1 (10+3*b.length) m (g.aT.map Ce.i))(p:iJ a M bE 1 (11+3*b.length) l (g.bF.map Ce.i))(q:iJ a M bE 1 (12+3*b.length) j (g.cQ.map Ce.i)):
 iQ M c.bq (c.off+b.length*6+i) 1/\rD a (aV M c.bq (c.off+b.length*6+i) [d]) c b g m l j h/\dZ (λk=>4<=k/\k≠9) a M a (aV M c.bq (c.off+b.length*6+i) [d]):=by
 have e:dZ (λk=>k=4) a M a (aV M c.bq (c.off+b.length*6+i) [d]):=dZ.aV t T.bq.1 _ _
 have x:h.flatten.length=b.length*6:=by rw[eE T.aP,T.aS]
 refine⟨by rw[jP];exact T.rE.wr cG,⟨?_,T.aS,T.aP,T.Cr e λk p q=>V,s.gX e V,p.gX e V,q.gX e V⟩,e.aO λk w=>V⟩
 have:=T.rE.eB (o:=b.length*6+i) (new:=[d]) cG
 grind [oI,Nat.add_sub_cancel_left,Nat.add_assoc]
end
@[grind cases] structure SO (n:Nat) (ro:ag) (M:E) (cC hp fr:N) (s:St):Prop where
 le:n<=M.size
 ni:∀b,b<n->ro b=0
 bI:∀b,M.size<=b->ro b=0
 cC:iJ ro M bE 1 2 cC (s.cC.map Ce.i)
 aQ:gF n ro M hp s.aQ
 bn:sk ro M fr s.bn
@[grind cases] structure FS (s:St):Prop where
 Nw:XI s
 rU:Lc s
 lo:s.cC.length<=1000000/\s.aQ.length<=1000000
variable{n:Nat}{a e:ag}{M d:E}{cC h c:N}{s:St}
def SO.of(N:uw (M.extract 0 n) a M cC h c s)(b:n<=M.size):SO n a M cC h c s:=by constructor<;>grind [uw.bs,Bs.ni,vr,Bs.bI,uw.cC,uw.aQ,uw.bn]
theorem SO.mv(w:SO n a M cC h c s)(v:Mv n a M e d):SO n e d cC h c s:=by constructor<;>grind [SO.le,Mv.aP,Mv.j8,SO.ni,Mv.bI,SO.cC,iJ.mv,SO.aQ,gF.mv,SO.bn,sk.mv]
theorem SO.mvF(w:SO n a M cC h c s){b:Nat}(f:Fz [b] M d)(e:b<n):Mv n a M a d:=by constructor<;>grind [Fz.aP,Fz.bC,SO.bI,SO.ni]
def SO.gX{p:Nat->Prop}(w:SO n a M cC h c s)(C:dZ p a M e d):n<=d.size/\(∀b,b<n->e b=0)/\∀b,d.size<=b->e b=0:=by grind [SO.le,dZ.aP,dZ.j8,SO.ni,dZ.bI]
theorem SO.bT(w:SO n a M cC h c s){b:Nat}(f:a b=1)(o:Nat)(l:ae):SO n a (aV M b o l) cC h c s:=by
 have C:dZ (λk=>k=1) a M a (aV M b o l):=dZ.aV w.bI f _ _;let⟨d,b,e⟩:=w.gX C;exact⟨d,b,e,w.cC.gX C cH,w.aQ.gX C cH cH,w.bn.gX C λk g=>V⟩
def SO.P6(w:SO n a M cC h c s)(C:dZ (λk=>k=2) a M e d){l:ab}(A:iJ e d bE 1 2 q (l.map Ce.i)):SO n e d q h c {s with cC:=l}:=
 let⟨b,f,g⟩:=w.gX C
 ⟨b,f,g,A,w.aQ.gX C cH cH,w.bn.gX C λk i=>V⟩
def SO.jK(w:SO n a M cC h c s)(C:dZ (λk=>k=3) a M e d){b:ah}(A:gF n e d q b):SO n e d cC q c {s with aQ:=b}:=
 let⟨f,g,i⟩:=w.gX C
 ⟨f,g,i,w.cC.gX C cH,A,w.bn.gX C λk j=>V⟩
def SO.mw(w:SO n a M cC h c s)(C:dZ (λk=>4<=k/\k≠9) a M e d){l:ak}(A:sk e d q l):SO n e d cC h q {s with bn:=l}:=
 let⟨b,f,g⟩:=w.gX C
 ⟨b,f,g,w.cC.gX C cH,w.aQ.gX C cH cH,A⟩
def SO.PR(w:SO n a M cC h c s)(b:Lc s):j9 M cC h c s:=⟨w.cC.nL (oh b.cC),w.aQ.kG (oh b.aQ),w.bn.PR (oh b.mQ) b.bn⟩
end
section
variable{K:Int->E->Prop}{p:Nat->Prop}
def SP(n a:Nat)(i:N)(c:E)(P:Nat)(v:Value)(e:E):Prop:=∃cC j h s,v=stV s cC j h/\(∀b,e.size<=b.size->(∀d,d<e.size->n<=d->b[d]? =e[d]?)->j9 b cC j h s)/\XI s/\(s.cC.length<=1000000/\s.aQ.length<=1000000)/\Rs a i c P e
@[grind cases] structure SQ (n rb:Nat) (bs:N) (ma:E) (k1 k2 Q:Nat) (ro:ag) (M:E) (cC hp fr:N) (s:St):Prop where
 w:SO n ro M cC hp fr s
 r:Rs rb bs ma Q M
 k1:ro k1=1/\k1<M.size/\n<=k1
 k2:ro k2=1/\k2<M.size/\n<=k2
 fs:FS s
variable{n a d e Q t P m:Nat}{i cC j h:N}{c M b:E}{l o:ag}{s q:St}{L:ad}
def SQ.fz(g:SQ n a i c d e Q l M cC j h s)(k:a<n)(f:Fz [a] M b)(r:Rs a i c t b):SQ n a i c d e t l b cC j h s:=
 by constructor<;>grind [SQ.w,SO.mv,SO.mvF,SQ.k1,Fz.aP,SQ.k2,SQ.fs]
def SQ.ext(f:SQ n a i c d e Q l M cC j h s)(g:a<n)(x:J M b):SQ n a i c d e Q l b cC j h s:=f.fz g (x.fz _) (f.r.ext x)
def SQ.jW(k:SQ n a i c d e Q l M cC j h s)(p:a<n)(m:∀f∈L,f=d\/f=e)(g:Fz [a] M b):gL L M b:=g.fq λf o=>by
 grind [SQ.k1,SQ.k2,List.mem_singleton]
def SQ.gk(g:SQ n a i c d e Q l M cC j h s)(k:a<n)(f:Fz [a] M b)(o:Nat):aR b e o=aR M e o:=by grind [bB,Fz.bC,SQ.k2,List.mem_singleton]
def SQ.cz(f:SQ n a i c d e Q l M cC j h s)(v:Rd a i m c)(C:c.size<=n)(x:Q<=P){q g o r:Int}(A:Vn o)(p:ae):SP n a i c P (.agg #[vi q,vi g,vi o,vi r,cC.v,j.v,h.v]) (aV M d 0 p):=by
 have w:=f.w.bT f.k1.1 0 p;have u:=f.r.cB v (k:=d) (oh f.k1) 0 p;exact⟨cC,j,h,⟨q,g,o,r,s.cC,s.aQ,s.bn⟩,rfl,λb z B=>have t:=(w.mv ⟨z,B,λ_ _=>rfl,λg y=>w.bI g (fA z y),w.ni⟩).PR f.fs.rU;⟨t.cC,t.aQ,t.bn⟩,⟨A,f.fs.Nw.aQ,f.fs.Nw.bn,f.fs.Nw.lh,f.fs.Nw.lf,f.fs.Nw.lr⟩,f.fs.lo,u.f,u.r.aO x⟩
def SQ.bT(f:SQ n a i c d e Q l M cC j h s)(g:Rd a i m c)(k:c.size<=n)(o:Nat)(b:ae):SQ n a i c d e Q l (aV M e o b) cC j h s:=
 by constructor<;>grind [SQ.w,SO.bT,SQ.k2,SQ.r,Rs.cB,bD,SQ.k1,SQ.fs]
def SQ.lW(p:SQ n a i c d e Q l M cC j h s)(m:a<n)(u:Q<=10^16)(r:∀g∈L,g=d\/g=e)(g:ab){k:ae}{o:Nat}(w:k=g.map Ce.i)(v:o=g.length)(z:0<g.length/\g.length<=100)
 (y:∀t b,t∈g->SQ n a i c d e (Q+1) l b cC j h s->Fz [a] (M.push (.cells (de k) bE)) b->K t b):bJ dN 77 [vp a 0,N.v (.mk M.size 0 o o)] (M.push (.cells (de k) bE)) λC b=>gL L (M.push (.cells (de k) bE)) b/\∃t:Int,C=vi t/\K t b:=
 have x:=J.push M (.cells (de k) bE)
 (HN p.r u g w v z).aO λ_ b⟨t,q,A,B,f⟩=>⟨(p.ext m x).jW m r f,t,q,y t b A ((p.ext m x).fz m f B) f⟩
def SQ.lC(g:SQ n a i c d e Q l M cC j h s)(m:a<n)(q:Q<=10^16)(p:∀f∈L,f=d\/f=e)(k:Int)
 (r:∀t b,0<=t->(t<k\/t=0)->SQ n a i c d e (Q+1) l b cC j h s->Fz [a] M b->K t b):bJ dN 74 [vp a 0,vi k] M λw b=>gL L M b/\∃t:Int,w=vi t/\K t b:=
 (dW g.r.r q k).aO λ_ b⟨t,o,v,t1,u,f⟩=>⟨g.jW m p f,t,o,r t b v t1 (g.fz m f (g.r.to f u)) f⟩
def SQ.gX(f:SQ n a i c d e Q l M cC j h s)(u:Rd a i m c)(E:c.size<=n)(C:dZ p l M o b)(j:∀k,p k->2<=k){x v t:N}(B:SO n o b x v t q)(z:FS q):SQ n a i c d e Q o b x v t q:=
 have D:=u.lt
 have w:∀g,g<n->b[g]? =M[g]? :=λg k=>C.fL g (cp k f.w.le) λy=>by have:=j _ y;have:=f.w.ni g k;omega
 have r:Fz [a] c b:=⟨fA f.r.f.aP C.aP,λg k A=>(w g V).trans (f.r.f.bC g k A)⟩
 ⟨B,⟨r,u.Bj f.r.r r (w a V)⟩,⟨(C.j8 _ f.k1.2.1).trans f.k1.1,cp f.k1.2.1 C.aP,f.k1.2.2⟩,⟨(C.j8 _ f.k2.2.1).trans f.k2.1,cp f.k2.2.1 C.aP,f.k2.2.2⟩,z⟩
def SQ.fq(g:SQ n a i c d e Q l M cC j h s)(m:∀f∈L,f=d\/f=e)(C:dZ p l M o b)(j:∀k,p k->2<=k):gL L M b:=λf k=>by
 grind [SQ.k1,SQ.k2,dZ.fL]
def SQ.jz(m:SQ n a i c d e Q l M cC j h s)(u:eR ((h.len:Int) -1)>=0):∃b f r p q g,s.bn=b++[f]/\rD l M h b f r p q g/\eR ((h.len:Int) -1)=(b.length:Int)/\h.len=b.length+1:=by
 have F:=m.w.bn;have t:=m.fs.rU.mQ;rcases ac5 s.bn with k|⟨b,f,k⟩
 .rw[k]at F;let⟨g,o⟩:=F;have:=o.rE.aS;grind [eE,acv.aP,acv.aS,List.length_nil,dt]
 .grind [sk.jz,rD.DT,dt]
def FS.jz(h:FS s){d:ak}{i g:bS}(f:s.bn=d++[i])(k:acs g)(l:g.aT.length<=1000000/\g.bF.length<=1000000/\g.cQ.length<=1000000):FS {s with bn:=d++[g]}:=by
 have b:=h.Nw;have c:=h.rU;have j:∀x∈d,x∈s.bn:=cG;have e:=c.mQ;rw[f]at e;simp at e;refine⟨⟨b.df,b.aQ,λx a=>?_,b.lh,fj,λx a=>?_⟩,⟨c.cC,c.fl,c.aQ,fj,λx a=>?_⟩,h.lo⟩<;>rcases bR.1 a with a|a
 .grind [XI.bn]
 .grind
 .exact b.lr x (j x a)
 .grind
 .grind [Lc.bn]
 .grind
def SQ.qd(k:SQ n a i c d e Q l M cC j h s)(r:Rd a i m c)(t:c.size<=n){q:ak}{z g:bS}(y:s.bn=q++[z]){J H I:N}{w:List ae}(T:rD l b h q g J H I w)(C:dZ (λo=>4<=o/\o≠9) l M l b)(E:acs g)(G:g.aT.length<=1000000/\g.bF.length<=1000000/\g.cQ.length<=1000000)
 (A:∀f∈L,f=d\/f=e)(B:Q<=P){v f p x:Int}(D:Vn p)(u:ae):gL L M b/\SP n a i c P (.agg #[vi v,vi f,vi p,vi x,cC.v,j.v,h.v]) (aV b d 0 u):=
 ⟨k.fq A C λo F=>V,(k.gX r t C (λo F=>V) (k.w.mw C T.qd) (k.fs.jz y E G)).cz r t B D u⟩
end
section
variable{S:ad}{m:E}{b P:Nat}{a:N}
end
section
def WI(f:ag):∀n,∃B,∀i,i<n->f i<=B
 |0=>⟨0,bO⟩
 |n+1=>let⟨B,h⟩:=WI f n;⟨B+f n,λi a=>by
  rcases eJ i n with e|e
  .have:=h i e;omega
  .have:i=n:=V;subst this;omega⟩
def eM.zV{c:cV}{s:St}(i:eM c s)(n:s.dT=0):s.aQ=[]:=by
 have q:=i.cz.1 n;let⟨m,u⟩:=i.aQ.Ib;let⟨B,o⟩:=WI m s.aQ.length;apply gA;intro t;have y:0<s.aQ.length:=aeH.2 t;have iH:∀k,∃(f:Nat)(e:dD),s.aQ[f]? =some e/\0<e.ct/\k<=m f:=λk=>by
  induction k with
  |zero=>
   let⟨e,g⟩:=dY s.aQ (s.aQ.length -1);refine⟨_,e,g,?_,jb _⟩;have l:=i.nP e g;rcases Dv e.ct 0 with j|j
   .have:=i.eG _ ⟨e,g,j⟩;grind [gG]
   .omega
  |succ k w=>
   let⟨f,e,g,b,r⟩:=w;have:=i.aQ.ex f e g b;rw[q]at this;simp only[oF]at this;let⟨d,p,j⟩:=PV (h:=s.aQ) (f:=f) V;let⟨l,hd⟩:=cX.1 p;have v:=u l d hd _ j V;rw[Ef]at v;refine⟨l,d,hd,?_,V⟩;apply gA;intro x;have:=((i.aQ.iu d (aZ hd)).O5 V).2.1 _ j;omega
 obtain⟨f,e,g,_,r⟩:=iH (B+1);have:=o f (bA g);omega
def eM.og{c:cV}{s:St}(h:eM c s):eM c {s with dG:=40}:=⟨h.gW,h.dT,h.cz,h.je,h.MH,bO,⟨h.df.1,by have:=h.df;have:=h.dG;show s.df<=40;omega⟩,h.mQ,h.cC,h.aQ,h.nP,h.bn,h.first,h.tG,h.eG,h.ug⟩
theorem j9.le{m g:E}{cC b e:N}{s:St}(f:j9 m cC b e s)(a:Le m g):j9 g cC b e s:=⟨f.cC.le a,fU.le f.aQ a λl k⟨n,c,h⟩=>⟨n,c,h.le a⟩,fU.le f.bn a λl k⟨r,o,h,c,i,j,d⟩=>⟨r,o,h,c,i.le a,j.le a,d.le a⟩⟩
def LwR(m:E)(v:Value)(a:E):Prop:=v=vb true/\J m a
variable{m:E}{d p cC b e:N}{c:cV}{s:St}
end
section
def St.kA(s:St)(n:Int):St:={s with dG:=n}
variable{a:cV}{s:St}{f:bS}{x:Instr}{o:ab}{b:ak}
def iR.kA{n:Int}(h:iR a s f x o):iR a (s.kA n) f x o:=⟨h.nn,h.br,h.nL,h.jB,h.cR,h.mF,h.pU,h.apply,h.WU,h.uD,h.Em,h.pL,h.sM⟩
@[grind cases] structure afg (s t:St):Prop where
 dG:t.dG=s.dG
 df:s.df<=t.df
 cC:s.cC<+:t.cC
 dT:t.dT=s.dT\/t.dT=0
def acN{dG:Int}(h:(oR a dG).ok=true):(gC a/\0<=dG/\dG<=40)/\oR a dG=⟨(nD a dG).dT,(nD a dG).je,(nD a dG).df,(nD a dG).cC,true⟩:=by
 have b:gC a/\0<=dG/\dG<=40:=by
  apply gA;intro c;rw[oR,aU c]at h;simp at h
 exact⟨b,ba b⟩
end
section
variable{b:List ae}
def Cl{α:Type}(S:ad)(d c:E)(e a:Nat)(R:E->ae->α->Prop)(s:N)(l:List α):Prop:=∃b,jo d c e a s b.flatten/\fK a (R (dg (s.bq::S) c)) b l
variable{α:Type}{S X:ad}{d c f M g:E}{e a k o:Nat}{R:E->ae->α->Prop}{s:N}{l:List α}{x:α}{new:ae}
theorem Yr{a:ae}(h:new.length=a.length):jh a 0 new=new:=by
 have:=Bv [] new a V;grind [List.length_nil,List.drop_of_length_le]
theorem _root_.Go.Vc.jo.nn(h:jo d c e a s b.flatten)(g:∀f∈b,f.length=a)(j:0<a)(f:b≠[]):s≠.nil:=λi=>by
 have:=h.aS;rw[i,eE g,show N.nil.len=0 from rfl,Nat.zero_mul]at this;have:=Nat.mul_pos (aeH.2 f) j;omega
def Cl.aS(h:Cl S d c e a R s l)(i:0<a):s.len=l.length:=by
 let⟨b,f,g⟩:=h;have:=f.aS;rw[eE g.aP]at this;grind [fK.aS,Nat.eq_of_mul_eq_mul_right]
def Cl.gr(h:Cl S d c e a R s l)(j:0<a)(i:l≠[]):Gr S d c e a R s l:=
 ⟨by obtain⟨b,f,g⟩:=h;exact f.nn g.aP j λk=>i (cr.1 cG),h⟩
def Cl.cz(i:qj a R)(h:Cl S d c e a R s l)(j:∀f∈S,f<d.size)(m:0<a)(k:l.length<=9223372036854775807):fU (dg S c) a (R (dg S c)) s l:=by
 let⟨b,f,g⟩:=h;grind [fU.PG,fK.aO,kO,List.mem_cons_of_mem]
theorem Cl.of(g:qj a R)(k:0<a)(d:jo c f e a s b.flatten)(j:J c f)(i:fK a (R (dg S c)) b l):Cl S c f e a R s l:=by
 refine⟨b,d,?_⟩;by_cases h:b=[]
 .grind [List.length_eq_zero_iff,fK.aS,fK.gD]
 .grind [jo.bq,jo.nn,fK.aP,fK.aO,J.dg]
def _root_.Go.Vc.Gr.PL(A:Gr S d c e a R s l)(F:l[k]? =some x)(E:o+new.length<=a):
 ∃f,f.length=a/\R (dg (s.bq::S) c) f x/\aV c s.bq (s.off+k*a+o) new=aV c s.bq (s.off+k*a) (jh f o new)/\iQ c s.bq (s.off+k*a+o) new.length/\∀i j,new[i]? =some j->aR (aV c s.bq (s.off+k*a+o) new) s.bq (s.off+k*a+o+i)=some j.v:=by
 let⟨B,b,C,g⟩:=A
 let⟨q,j,tail,t,H,n,I,J⟩:=C.D.resolve_left B
 let⟨f,h⟩:=dY b k cG
 have D:=g.aP f (aZ h)
 have v:s.off=0:=by rw[t];rfl
 have u:s.bq=q:=by rw[t];rfl
 have Nw:k*a+o+new.length<=b.flatten.length:=by
  rw[eE g.aP];have:(k+1)*a<=b.length*a:=fg _ (bA h);grind [Nat.add_mul]
 have G:(jh f o new).length=a:=by grind [mg]
 refine⟨f,D,g.eN k f x h F,?_,?_,λi j M=>?_⟩
 .rw[v,u,fB]
  have p:=dJ.aV (m:=c) (o:=k*a+o) (r:=new) n
  have w:=dJ.aV (m:=c) (o:=k*a) (r:=jh f o new) n
  have z:jh (b.flatten++tail) (k*a+o) new=jh (b.flatten++tail) (k*a) (jh f o new):=by
   rw[rT _ _ _ _ Nw,rT _ _ _ _ (by rw[G];rw[eE g.aP];have:(k+1)*a<=b.length*a:=fg _ (bA h);rw[nl]at this;omega)];have K:=wT b k f o new g.aP h E;have L:=wT b k f 0 (jh f o new) g.aP h V;grind [Yr]
  rw[z]at p
  apply FI
  intro i
  by_cases y:i=q
  .rw[y];exact p.trans w.symm
  grind [cg]
 .grind [dJ.iQ,List.length_append]
 .rw[v,u,fB,(dJ.aV (m:=c) (o:=k*a+o) (r:=new) n).dz,Ey,ba cG]
  grind
theorem Cl.D(m:Cl S d c e a R s l)(p:l[k]? =some x):∃f,R (dg (s.bq::S) c) f x/\∀i g,f[i]? =some g->aR c s.bq (s.off+k*a+i)=some g.v:=by
 let⟨b,n,h⟩:=m;let⟨f,j⟩:=dY b k cG;refine⟨f,h.eN k f x j p,λi g o=>?_⟩;have:=n.kV (k*a+i) g (jY h.aP j o);grind [Nat.add_assoc]
def Cl.cB(I:qj a R)(U:0<a)(t:Cl S d M e a R s l)(hx:l[k]? =some x)(Q:o+new.length<=a)(X:J M f)(v:g[s.bq]? =(aV f s.bq (s.off+k*a+o) new)[s.bq]?)(N:∀h,h<M.size->h≠s.bq->g[h]? =M[h]?)
 (Z:∀c,c.length=a->R (dg (s.bq::S) M) c x->R (dg (s.bq::S) g) (jh c o new) x):Cl S d g e a R s l:=by
 have P:l≠[]:=cG
 have G:=(t.gr U P)
 let⟨b,u,j⟩:=t
 let⟨c,p⟩:=dY b k cG
 have hl:=j.aP c (aZ p)
 have lr:(jh c o new).length=a:=by grind [mg]
 have L:=bA p
 have Nw:k*a+o+new.length<=b.flatten.length:=by
  rw[eE j.aP];have:(k+1)*a<=b.length*a:=fg _ L;grind [Nat.add_mul]
 have V:=u.ext X
 let⟨h,i,tail,n,C,D,E,F⟩:=V.D.resolve_left G.iT
 have W:s.off=0:=by rw[n];rfl
 have H:s.bq=h:=by rw[n];rfl
 have O:Le (dg (s.bq::S) M) (dg (s.bq::S) g):=ms λh K y=>⟨y,N h K λe=>y (by simp[e])⟩
 have A:∀i∈b.set k (jh c o new),i.length=a:=λi hc=>by
  grind [List.mem_or_eq_of_mem_set,fK.aP]
 have q:(b.set k (jh c o new)).flatten.length=b.flatten.length:=by rw[eE A,eE j.aP,YA]
 refine⟨b.set k (jh c o new),⟨by rw[q];exact u.aS,bG ⟨h,i,tail,n,C,?_,by rw[<-E,dj,dj,q],F⟩⟩,by simp[j.aS],A,λz i Y w T=>?_⟩
 .have B:=dJ.aV (m:=f) (o:=k*a+o) (r:=new) D
  rw[rT _ _ _ _ Nw,wT b k c o new j.aP p Q]at B
  rw[W,H,fB]at v
  exact v.trans B
 .by_cases B:k=z
  .grind [List.getElem?_set_self,fK.eN]
  .rw[iY B]at w
   exact I.le O (j.eN z i Y w T)
end
section
variable{S:ad}{m b:E}{d p s:N}{a:af}{c:av}
def Le.Eu{l:ae}{b o:Nat}(h:jt (dg S m) b o l):jt m b o l:=λi c a=>(gV.1 (h i c a)).2
def Gv{l:List ab}(h:rJ (dg S m) s l)(d:l.length<=1000000):bJ dN 114 [s.v] m λv a=>∃r,v=r.v/\Cl S m a mX 1 nm r l/\J m a:=by
 have⟨b,r,c⟩:=h.Wf λ_ _=>nm.aO.aS;have K:bJ dN 114 [s.v] m λv a=>∃r,v=r.v/\jo m a mX 1 r b.flatten/\J m a:=by
  apply rq;exact Sf (b:=[.s .nil]) h.aS r.aS r.aP (Le.Eu c) V
 grind [bJ.aO,Cl.of,nm.aO]
def Ez(h:dq (dg S m) s a)(e:a.length<=1000000):bJ dN 113 [s.v] m λv b=>∃r,v=r.v/\Cl S m b kH 3 jL r a/\J m b:=by
 have⟨c,r,d⟩:=h.Wf λ_ _=>jL.aO.aS;have K:bJ dN 113 [s.v] m λv b=>∃r,v=r.v/\jo m b kH 3 r c.flatten/\J m b:=by
  apply qF;exact Sf (b:=[.i 0,.i 0,.s .nil]) h.aS r.aS r.aP (Le.Eu d) V
 grind [bJ.aO,Cl.of,jL.aO]
def C4{l:List Instr}(h:gR (dg S m) s l)(d:l.length<=1000000):bJ dN 63 [s.v] m λv a=>∃r,v=r.v/\Cl S m a dV 6 eS r l/\J m a:=by
 have⟨b,r,c⟩:=h.Wf λ_ _=>eS.aO.aS;have K:bJ dN 63 [s.v] m λv a=>∃r,v=r.v/\jo m a dV 6 r b.flatten/\J m a:=by
  apply pO;exact Sf (b:=[.i 0,.i 0,.i 0,.i 0,.s .nil,.s .nil]) h.aS r.aS r.aP (Le.Eu c) V
 grind [bJ.aO,Cl.of,eS.aO]
def OY{l:ab}(h:bd (dg S m) s l)(d:l.length<=1000000):bJ dN 62 [s.v] m λv b=>∃r,v=r.v/\(∀a,(∀c∈a,c<m.size)->bd (dg a b) r l)/\J m b:=
 (ly (h.le fG) V).aO λ_ b⟨r,e,o,x⟩=>⟨r,e,λa c=>bd.PG c o V,x⟩
def J2(hS:∀h∈S,h<m.size)(hd:dq (dg S m) d a)(K:eP a):bJ dN 61 [d.v] m λP m'=>∃s,P=s.v/\dq (dg S m') s a/\J m m':=by
 apply CQ;simp -zeta only[dU];have h4:=K.aS;refine(Ez hd V).aO ?_;rintro _ ay ⟨r,rfl,T,x1⟩;have ax:=T.aS cH;refine⟨r,rfl,ik (n:=a.length) V (λq b=>J m b/\Cl S m b kH 3 jL r a) ⟨x1,T⟩ ?_⟩;rintro q b an μ hk ⟨xM,C⟩ ak
 refine⟨λe=>?_,λe=>⟨r,rfl,C.cz jL.aO hS cH V,xM⟩⟩;simp only[bh]at e;let⟨x,i⟩:=dY a q;have ah:a≠[]:=λe=>by rw[e]at i;simp at i
 have G:=C.gr cH ah;have hy:=G.cD;have aq:=mH K i;obtain⟨ao,⟨Z,rfl,H⟩,F⟩:=C.D i;have aw:=H.aS;refine⟨V,V,_,F 0 _ rfl,_,F 1 _ rfl,Z,F 2 _ rfl,?_⟩;intro ai k;obtain⟨p,-,s3⟩:=kT (M:=b) (c:=ai) (a:=k) rfl rfl rfl;clear_value k;have aa:∀c∈r.bq::S,c<b.size:=λc f=>by
  rcases aY.1 f with e|e
  .omega
  .have:=hS c e;omega
 refine(Gv (H.le p.eU λ_ _=>nm.aO.le p.eU) V).aO ?_;rintro _ w ⟨h,rfl,E,A⟩;have z4:=A.aP;have ar:=E.aS cH;have ad:=p.O A;obtain⟨_,_,_,_,am,w'⟩:=(G.ext jL.aO ad).PL (o:=2) (new:=[.s h]) i (AT 3);refine⟨A.fq fj,h,rfl,V,V,am,?_⟩;intro l;have t:∀c,c≠r.bq->l[c]? =w[c]? :=λc f=>cg _ _ _ _ f;have z5:l.size=w.size:=bD _ _ _ _;have h5:l[r.bq]? =(aV w r.bq (r.off+q*3+2) [.s h])[r.bq]? :=rfl;have Q:=w' 0 _ rfl;change aR l _ _=_ at Q;clear_value l;have Y:x.dS≠[]->k.size<=h.bq:=λg=>(E.gr cH g).cD.1;have d5:Cl (r.bq::S) k l mX 1 nm h x.dS:=by
  let⟨X,y,O⟩:=E;by_cases hc:x.dS=[]
  .rw[hc]at O⊢;have:X=[]:=cr.1 (by rw[O.aS];rfl);subst this;refine⟨[],?_,fK.gD _ _⟩;rcases y.bq with e|e
   .subst e;exact⟨y.aS,bu rfl⟩
   .exact y.congr (t _ V)
  .have:=Y hc;exact⟨X,y.congr (t _ V),O.aO λW ae=>nm.aO.le (ms λc f g=>⟨g,t c λe=>g (by simp[e])⟩)⟩
 refine⟨λc f=>t c (by simp at f;omega),ik (n:=x.dS.length) V (λab N=>w.size<=N.size/\(∀c,c<k.size->c≠r.bq->N[c]? =k[c]?)/\N[r.bq]? =l[r.bq]? /\Cl (r.bq::S) k N mX 1 nm h x.dS) ⟨V,λc f g=>(t c g).trans (A.bC c f),rfl,d5⟩ ?_⟩;rintro ab N I2 μ2 hi ⟨zN,v,I,D⟩ aj;have ac:Le (dg (r.bq::S) b) (dg (r.bq::S) N):=ms λc f g=>⟨g,(v c V λe=>g (by simp[e])).trans (p.bC c f)⟩;refine dit (λe=>?_) λe=>?_
 .let⟨ae,j⟩:=dY x.dS ab;have g:x.dS≠[]:=λe=>by rw[e]at j;simp at j
  have au:=Y g;have av:=(((K.eN q x i).iT (oh (bA j))).2.2.2 ae (aZ j)).1;have U:=D.gr cH g;have ap:=U.cD;have ag:rJ (dg (r.bq::S) N) Z x.dS:=H.le ac λ_ _=>nm.aO.le ac;let⟨P,hv,gv⟩:=ag.D j;refine⟨V,V,P,(gV.1 gv).2,?_⟩;intro m6 L;obtain⟨R,-,s7⟩:=kT (M:=N) (c:=m6) (a:=L) rfl rfl rfl;clear_value L;have g2:aR L r.bq (r.off+q*3+2)=some h.v:=by
   rw[<-bB I]at Q;exact R.aR Q
  refine⟨V,V,h,g2,(OY (hv.le R.eU) V).aO ?_⟩;rintro _ m8 ⟨z,rfl,hq,B⟩;have z8:=B.aP;have u:=R.O B;obtain⟨_,_,_,_,al,-⟩:=(U.ext nm.aO u).PL (o:=0) (new:=[.s z]) j (AT 1);refine⟨B.fq fj,z,rfl,bB (B.bC _ V) _,V,V,al,λc f=>cg _ _ _ _ (by simp at f;omega),aj V _ ⟨by rw[bD];omega,λc f g=>?_,?_,?_⟩⟩
  .rw[cg _ _ _ _ V,u.bC c V];exact v c f g
  .rw[cg _ _ _ _ V,u.bC _ V];exact I
  .refine Cl.cB nm.aO cH D j (o:=0) (new:=[.s z]) (AT 1) u rfl (λc f g=>by rw[cg _ _ _ _ g];exact u.bC c f) λW _⟨_,e,_⟩=>⟨z,by rw[e];rfl,?_⟩;exact(hq (h.bq::r.bq::S) λc f=>by
    rcases aY.1 f with e|e
    .omega
    .have:=aa c e;omega).le (dQ bO λ_ af=>af)
 .refine ak V _ ⟨⟨V,λc f=>(v c V V).trans (by rw[p.bC c V];exact xM.bC c f)⟩,?_⟩
  refine Cl.cB jL.aO cH C i (o:=2) (new:=[.s h]) (AT 3) ad (I.trans h5) (λc f g=>(v c V g).trans (p.bC c f)) λW _⟨_,e,_⟩=>⟨h,by rw[e];rfl,D.cz nm.aO (λc f=>cp (aa c f) p.aP) cH V⟩
end
section
variable{g A H X:ad}{h w z c r:E}{d C s j a b ks:N}{t:af}{u:av}{f:dP}{k tb v:Nat}{B:ae}{K:E->Prop}
def _root_.Go.Vc.Gr.aeZ{α:Type}{a f:Nat}{d b:ae}{R:E->ae->α->Prop}{y:α}{K:N->E->Prop}(n:qj d.length R)(q:w.size<=h.size)(o:R (dg g h) b y)(p:f<=140737488355328)
 (s:∀r c,Gr g w c a d.length R r [y]->h.size<=r.bq->J h c->K r c):lS (h.push (.cells (de b) a)) a d f .nil (.mk h.size 0 1 1) K:=by
 have t:=J.push h (.cells (de b) a)
 have i:=n.aS o
 refine jo.fy (f:=h) (c:=d) (h:=b) (l:=[]) (jo.gD _ _ _ _) t (sp i) (by have:=(dJ.push h (e:=a) (l:=b)).kV;simpa using this) (sp p) λr c k v m C D F=>?_
 have j:r≠.nil:=λa=>by rw[a]at m;simp at m
 have u:=k.bq.resolve_left j
 refine s r c ⟨j,[b],by simpa using k.da q,rfl,sp i,λB x G z A=>?_⟩ u v
 grind [J.dg]
def rG.first(N:dq (dg g c) j t)(q:∀b∈g,b<c.size)(x:J c r)(D:Gr g z r dV 6 eS ks f.cF)(Z:c.size<=z.size)(O:bd (dg (ks.bq::g) r) a f.aX)(d:bd (dg (ks.bq::g) r) b f.cR)(s:dJ c k tb B)(hi:v<B.length)
 (l:w.size<=k/\k∈g)(F:∀b∈A,b<r.size/\b≠k)(G:J w c)(P:∀i e,rG g w e j i t [(f,ks)]->dJ e k tb (jh B v [.s i])->J w e->K e):
 lS (r.push (.cells (de [.s a,.s b,.i f.bL,.i f.aT,.s ks]) kJ)) kJ [.s .nil,.s .nil,.i 0,.i 0,.s .nil] 88 .nil (.mk r.size 0 1 1) λi e=>gL A (r.push (.cells (de [.s a,.s b,.i f.bL,.i f.aT,.s ks]) kJ)) e/\iQ e k v 1/\(gL A e (aV e k v [.s i])/\K (aV e k v [.s i])):=by
 have zx:=x.aP
 have zf:=G.aP
 have yk:=D.cD
 have aa:∀b∈ks.bq::g,b<r.size:=λb d=>by
  rcases aY.1 d with h|h
  .omega
  .have:=q b h;omega
 have kx:ks.bq∉g:=λn=>by have:=q _ n;omega
 refine Gr.aeZ (w:=w) (g:=ks.bq::g) (d:=[.s .nil,.s .nil,.i 0,.i 0,.s .nil]) (y:=hd (f,ks)) RA.aO V ⟨a,b,rfl,O,d⟩ cH λi e L hr p=>?_
 have u:=(s.ext x).ext p
 have ab:=(s.ext x).lt
 have Q:i.bq≠k:=V
 have U:∀b,b≠k->(aV e k v [.s i])[b]? =e[b]? :=λb d=>cg _ _ _ _ d
 have C:Fz [k] r (aV e k v [.s i]):=(p.fz _).aV (bu bO) _ _
 have I:Fz [k] c (aV e k v [.s i]):=(x.fz _).O C
 have ac:(aV e k v [.s i]).size=e.size:=bD _ _ _ _
 have X:∀b∈i.bq::ks.bq::g,b∈g\/c.size<=b:=λb d=>by
  rcases aY.1 d with h|h
  .exact bG V
  .rcases aY.1 h with h|h
   .exact bG V
   .exact bu h
 refine⟨λb d=>?_,u.iQ V,λb d=>U b (F b d).2,P i _ ⟨N.le (I.dg (by simp[l.2]) λb d=>X b (by simpa[Ks]using d)),?_,λH o=>?_,by simp[Ks],λb d=>?_,λn=>?_,λH o n=>?_⟩ (dJ.aV (m:=e) u) ((G.O x).O p|>.aV l.1 _ _)⟩
 .have E:=F b d
  rw[p.bC b E.1,(J.push r _).bC b E.1]
 .have:(Ks [(f,ks)]++g)=ks.bq::g:=rfl
  rw[this]
  exact L.Pq RA.aO ((Fz.cZ _ e).aV (bu (by simp:k∈[k])) _ _) (by simp[l.2]) (by simp;exact Q)
 .simp at o
  subst o
  let⟨R,E,T,W⟩:=D
  have M:Gr (ks.bq::g) z r dV 6 eS ks f.cF:=⟨R,E,T,W.aO λY H=>eS.aO.le (kO r λb d=>by
   rcases aY.1 d with h|h
   .simp[h]
   .exact h)⟩
  exact Gr.da eS.aO (M.re eS.aO C (by simp[l.2]) (by simp;exactλh=>kx (h▸l.2)) λb d=>by
   rcases aY.1 d with h|h
   .exact bG V
   .exact bu (by simpa[Ks]using h)) (λb d=>bu d) V
 .have:=q b d;have:=p.aP;omega
 .have:=q _ n;omega
 .simp at o
  subst o
  exact kx n
@[grind cases] structure aaf (ps:av):Prop where
 iT:ps≠[]
 pF:ps.length<=1000
 eN:∀q∈ps,q.aX.length<=1000/\q.cR.length<=1000/\1<=q.cF.length/\q.cF.length<=1000000/\∀x∈q.cF,x.aN.length<=1000/\x.fQ.length<=1000
def Ij(hS:∀s∈g,s<h.size)(hd:dq (dg g h) d t)(ht:eP t)(hp:kY (dg g h) C u)(ok:aaf u):
 bJ dN 34 [.agg #[N.v d,N.v C]] h λal x=>∃j f F,al=.agg #[N.v j,N.v f]/\rG g h x j f t F/\F.map (·.1)=u/\J h x:=by
 apply Bd
 simp -zeta only[kd,nJ]
 have aV:=hp.aS;have aU:=ok.pF
 intro B a2
 let⟨x2,hl⟩:=fN (a:=B) (c:=a2) rfl rfl
 have s1:=pz B
 clear_value a2
 have h1:=hl B.size bO
 refine(J2 (S:=B.size::h.size::g) (λs w=>by
  simp only[aY]at w;rcases w with e|e|e
  .omega
  .omega
  .have:=hS s e;omega) (hd.le (x2.dg λb k=>by
  simp only[aY]at k;rcases k with e|e|e
  .exact bG V
  .exact bG V
  .exact bu e)) ht).aO λ_ y⟨j,e,m,l⟩=>?_
 subst e
 refine⟨l.fq hl,_,rfl,?_⟩
 intro m3 X
 obtain⟨x4,B0,s4⟩:=kT (M:=y) (c:=m3) (a:=X) rfl rfl rfl
 clear_value X
 have u2:=x2.O l
 have z3:=l.aP
 generalize U:y.size::B.size::h.size::g=S'
 have ay:∀{c:E},X.size<=c.size->∀b∈S',b<c.size:=λD b k=>by
  rw[<-U]at k;simp only[aY]at k;rcases k with e|e|e|e
  .omega
  .omega
  .omega
  .have:=hS b e;omega
 have aA:∀b∈S',b∈g\/h.size<=b:=λb k=>by
  rw[<-U]at k;simp only[aY]at k;rcases k with e|e|e|e
  .exact bG V
  .exact bG V
  .exact bG V
  .exact bu e
 have aI:dq (dg S' X) j t:=m.le (x4.dg λb k=>by
  rw[<-U]at k;rcases aY.1 k with e|e
  .exact bG V
  .exact bu e)
 have mS:y.size∈S':=by rw[<-U];simp
 refine ik (n:=u.length) V (λP c=>J y c/\X.size<=c.size/\∃f F,dJ c y.size lV [.s j,.s f]/\F.map (·.1)=u.take P/\((F=[]/\f=.nil/\dq (dg S' c) j t)\/rG S' y c j f t F)) ⟨x4,bW,.nil,[],B0,rfl,bu ⟨rfl,rfl,aI⟩⟩ ?_
 rintro P c aF μ hk ⟨xM,zM,f,F,R,W,hA⟩ aP
 have af:=u2.O xM
 refine dit (λD=>?_) λD=>?_
 .let⟨v,ai⟩:=dY u P
  have⟨k1,k2,k3,k4,k5⟩:=ok.eN v (aZ ai)
  let⟨a,b,s,c1,c2,c3,e0,e1,e2,e3,e4⟩:=hp.D ai
  have G:∀{al:Value}{b K:Nat},aR (dg g h) b K=some al->aR c b K=some al:=λD=>af.aR (gV.1 D).2
  obtain⟨H,hH,aG,aH⟩:∃H:ad,(∀b∈H,b<c.size)/\(∀b∈H,b∈g\/h.size<=b)/\((F=[]/\f=.nil/\dq (dg S' c) j t/\H=S')\/(rG S' y c j f t F/\H=f.bq::(Ks F++S'))):=by
   rcases hA with⟨e1,e2,e3⟩|I
   .exact⟨S',ay zM,aA,bu ⟨e1,e2,e3,rfl⟩⟩
   .refine⟨_,λb k=>?_,λb k=>?_,bG ⟨I,rfl⟩⟩
    .rcases aY.1 k with e|e
     .have:=I.g.cD;omega
     .rcases bR.1 e with e|e
      .obtain⟨ah,l,rfl⟩:=fu.1 e;have:=(I.c ah l).cD;omega
      .exact ay zM b e
    .rcases aY.1 k with e|e
     .have:=I.g.cD;exact bG V
     .rcases bR.1 e with e|e
      .obtain⟨ah,l,rfl⟩:=fu.1 e;have:=(I.c ah l).cD;exact bG V
      .exact aA b e
  refine⟨V,V,_,G e0,_,G e1,_,G e2,_,G e3,_,G e4,?_⟩
  intro m6 m7
  obtain⟨x7,-,s7⟩:=kT (M:=c) (c:=m6) (a:=m7) rfl rfl rfl
  clear_value m7
  have zl:∀{m:E},m7.size<=m.size->∀s∈[c.size,B.size,h.size],s<m.size:=λD s w=>by
   simp at w;have:=xM.aP;omega
  have hT:∀{m:E},m7.size<=m.size->∀b∈c.size::H,b<m.size:=λD b k=>by
   rcases aY.1 k with e|e
   .omega
   .have:=hH b e;omega
  have wu:=af.aP
  have lH:∀{m:E},J c m->Le (dg g h) (dg (c.size::H) m):=λag=>(af.O ag).dg λb k=>by
   rcases aY.1 k with e|e
   .exact bG V
   .exact aG b e
  refine(OY (c1.le (lH x7)) V).aO ?_
  rintro _ z ⟨r1,rfl,i1,x8⟩
  have z8:=x8.aP
  have O:∀{r M2:E}{b:Nat},J r M2->b<r.size->∀K,aR M2 b K=aR r b K:=λag D K=>bB (ag.bC _ D) K
  have X8:=x7.O x8
  refine⟨x8.fq (zl bW),r1,rfl,O x8 V _,O x8 V _,?_⟩
  refine(OY (c2.le (lH X8)) V).aO ?_
  rintro _ Y ⟨r2,rfl,i2,x9⟩
  have z9:=x9.aP
  have X9:=X8.O x9
  refine⟨x9.fq (zl V),r2,rfl,O x9 V _,?_⟩
  refine(C4 (c3.le (lH X9) λ_ _=>eS.le (lH X9)) V).aO ?_
  rintro _ ap ⟨A,rfl,i3,au⟩
  have CE:=au.aP
  have aX:=i3.aS cH
  have ao:v.cF≠[]:=λe=>by rw[e]at k3;simp at k3
  have y3:=(i3.gr cH ao).cD
  refine⟨au.fq (zl V),A,rfl,?_⟩
  intro aL aM ae
  have ar:∀b,b≠c.size->ae[b]? =ap[b]? :=λb k=>((cg _ _ _ _ k).trans (cg _ _ _ _ k)).trans (cg _ _ _ _ k)
  have a4:ae.size=ap.size:=by simp[ae,aM,aL,bD]
  clear_value ae
  have aK:Cl (c.size::H) Y ae dV 6 eS A v.cF:=by
   obtain⟨an,K,rr⟩:=i3;exact⟨an,K.congr (ar _ V),rr.aO λcs ah=>eS.aO.le (ms λb k l=>⟨l,ar b λe=>l (by simp[e])⟩)⟩
  refine ik (n:=v.cF.length) V (λaB m=>ap.size<=m.size/\(∀b,b<Y.size->b≠c.size->m[b]? =Y[b]?)/\Cl (c.size::H) Y m dV 6 eS A v.cF) ⟨V,λb k l=>(ar b l).trans (au.bC b k),aK⟩ ?_
  rintro aB m I2 μ2 hj ⟨zN,hN,am⟩ aO
  have GC:=am.gr cH ao
  have yC:=GC.cD
  refine dit (λh2=>?_) λh2=>?_
  .let⟨ag,Z⟩:=dY v.cF aB
   have⟨f1,f2⟩:=k5 ag (aZ Z)
   obtain⟨aT,⟨pa,pj,rfl,ha,aJ⟩,T⟩:=am.D Z
   refine⟨V,V,_,T 0 _ rfl,_,T 1 _ rfl,_,T 2 _ rfl,_,T 3 _ rfl,_,T 4 _ rfl,_,T 5 _ rfl,?_⟩
   intro aN aj
   obtain⟨aD,-,a3⟩:=kT (M:=m) (c:=aN) (a:=aj) rfl rfl rfl
   clear_value aj
   have aE:∀{N':E},aj.size<=N'.size->∀s∈[m.size,c.size,B.size,h.size],s<N'.size:=λD s w=>by
    rcases aY.1 w with e|e
    .omega
    .exact zl V s e
   have ax:∀{N':E},aj.size<=N'.size->∀b∈A.bq::c.size::H,b<N'.size:=λD b k=>by
    rcases aY.1 k with e|e
    .omega
    .exact hT V b e
   refine(OY (ha.le aD.eU) V).aO ?_
   rintro _ a1 ⟨r4,rfl,i4,aa⟩
   have a5:=aa.aP
   have aw:=aD.O aa
   refine⟨aa.fq (aE bW),r4,rfl,O aa V _,O aa V _,O aa V _,?_⟩
   refine(OY (aJ.le aw.eU) V).aO ?_
   rintro _ aC ⟨r5,rfl,i5,ab⟩
   have a6:=ab.aP
   have ac:=aw.O ab
   obtain⟨_,_,_,_,aQ,-⟩:=(GC.ext eS.aO ac).PL (o:=4) (new:=[.s r4]) Z bO
   have aq:∀{s:Nat},s∈[m.size,c.size,B.size,h.size]->s≠A.bq:=λw=>by
    simp at w;have:=xM.aP;omega
   refine⟨ab.fq (aE V),r5,rfl,O ab V _,O ab V _,V,V,aQ,?_⟩
   intro ak
   have Q:∀b,b≠A.bq->ak[b]? =aC[b]? :=λb k=>cg _ _ _ _ k
   have a7:ak.size=aC.size:=bD _ _ _ _
   have av:Cl (c.size::H) Y ak dV 6 eS A v.cF:=
    Cl.cB eS.aO cH am Z (o:=4) (new:=[.s r4]) bO ac rfl (λb k l=>(Q b l).trans (ac.bC b k)) λcs _⟨_,j0,e,_,h2⟩=>⟨r4,j0,by rw[e];rfl,(i4 (A.bq::c.size::H) (ax bW)).le (ms λb k l=>⟨l,(Q b λe=>l (by simp[e])).trans (ab.bC b k)⟩),h2.le (ms λb k l=>⟨l,(Q b λe=>l (by simp[e])).trans (ac.bC b k)⟩)⟩
   clear_value ak
   obtain⟨_,_,_,_,aS,-⟩:=(av.gr cH ao).PL (o:=5) (new:=[.s r5]) Z bO
   refine⟨λb k=>Q b (aq k),bB (Q _ (aq bO)) _,V,V,aS,λb k=>cg _ _ _ _ (aq k),aO V _ ⟨by rw[bD];omega,λb k l=>?_,?_⟩⟩
   .rw[cg _ _ _ _ V,Q b V,ac.bC b V];exact hN b k l
   .exact Cl.cB eS.aO cH av Z (o:=5) (new:=[.s r5]) bO di rfl (λb k l=>cg _ _ _ _ l) λcs _⟨a0,_,e,h1,_⟩=>⟨a0,r5,by rw[e];rfl,h1.le (dQ bO λ_ D=>D),(i5 (A.bq::c.size::H) (ax V)).le (ms λb k l=>by
     have az:b≠A.bq:=λe=>l (by simp[e]);exact⟨l,by rw[cg _ _ _ _ az];exact Q b az⟩)⟩
  .have xN:J c m:=⟨V,λb k=>by rw[hN b V V];exact X9.bC b k⟩
   have gk:Gr H Y m dV 6 eS A v.cF:=by
    let⟨h0,an,K,rr⟩:=GC;exact⟨h0,an,K,rr.aO λcs ah=>eS.aO.le (kO m λb k=>by
     rcases aY.1 k with e|e
     .simp[e]
     .simp[e])⟩
   have aa:∀{b:Nat},b<Y.size->b∉c.size::H->b∉A.bq::H:=λk l w=>by
    rcases aY.1 w with e|e
    .omega
    .exact l (aW _ e)
   have j1:bd (dg (A.bq::H) m) r1 v.aX:=(i1 (c.size::H) (hT bW)).le (ms λb k l=>⟨aa V l,(hN b V λe=>l (by simp[e])).trans (x9.bC b k)⟩)
   have j2:bd (dg (A.bq::H) m) r2 v.cR:=(i2 (c.size::H) (hT V)).le (ms λb k l=>⟨aa k l,hN b k λe=>l (by simp[e])⟩)
   have ac:aR m y.size 1=some (N.v f):=(R.ext xN).dz 1
   refine⟨f,ac,?_⟩
   have nb:∀s∈[c.size,B.size,h.size],s<m.size/\s≠y.size:=λs w=>by
    refine⟨zl V s w,?_⟩;simp at w;omega
   have j7:∀Q x l',rG S' y x j Q t l'->l'.map (·.1)=u.take (P+1)->dJ x y.size lV [.s j,.s Q]->J y x->X.size<=x.size->aF (eR ((P:Int)+1)) x/\μ (eR ((P:Int)+1)) x<μ P c:=λQ x l' Z e T x' z'=>aP V x ⟨x',z',Q,l',T,e,bG Z⟩
   have ah:∀{x:E},dJ x y.size lV [.s j,.s f]->X.size<=x.size:=λR=>by have:=R.lt;omega
   rcases aH with⟨rfl,rfl,ab,rfl⟩|⟨I,rfl⟩
   .exact rG.first (w:=y) (v:=1) (B:=[.s j,.s .nil]) (tb:=lV) (f:=⟨v.aX,v.cR,v.bL,v.aT,v.cF⟩) (A:=[c.size,B.size,h.size]) ab hH xN gk V j1 j2 R bO ⟨bW,mS⟩ nb xM λQ x Z T x'=>j7 Q x _ Z (by
     have:=W;simp at this;rw[bX ai,<-W];rfl) T x' (by have:=T.lt;omega)
   .have y:F.length=P:=by have:=jO List.length W;simp at this;omega
    have yq:=I.g.cD
    exact(I.By (i:=1) (bc:=[.s j,.s f]) (tb:=lV) (p:=⟨v.aX,v.cR,v.bL,v.aT,v.cF⟩) (L:=[c.size,B.size,h.size]) xN gk V j1 j2 R bO ⟨bW,mS⟩ (λs w=>⟨(nb s w).1,(nb s w).2,by
     have l:=I.nq;rw[<-U]at l;simp only[aY,Cj]at w l;rcases w with e|e|e|e
     .omega
     .omega
     .omega
     .simp at e⟩) V xM λQ x Z T x'=>j7 Q x _ Z (by rw[bX ai,kE,W];rfl) T x' (by have:=T.lt;omega)).2
 .rw[eW V]at W
  refine⟨j,R.dz 0,f,R.dz 1,?_⟩
  intro m
  have l:Fz [B.size] c m:=(Fz.cZ _ c).aV (bu bO) _ _
  rcases hA with⟨rfl,_⟩|I
  .exact absurd W.symm ok.iT
  .exact⟨j,f,F,rfl,I.re l (by rw[<-U];simp) (λb k=>⟨bu (by rw[<-U];simp[k]),by have:=hS b k;have:=l.aP;have:=af.aP;omega⟩) u2.aP,W,af.aV V _ _⟩
end
structure aak where
 bz:Int
 OP:Int
 P1:Int
 Y7:Int
 TW:Int
 adS:Int
 mQ:Int
 Wl:Int
def mx(a b:Int):Int:=if b>a then b else a
def abz:ah->Int
 |[]=>0
 |c::h=>(if 0<c.ct then 1 else 0)+abz h
def aex(n:Int):ah->Int
 |[]=>n
 |c::h=>aex (mx n c.ct) h
def UT(c:aak)(a:Int)(OO:Bool):aak:=
 if OO=true then{c with P1:=c.P1+1}
 else if a=6\/a=10 then{c with OP:=c.OP+1}
 else if a=14 then{c with Y7:=c.Y7+1}
 else if a=15 then{c with TW:=c.TW+1}
 else c
def Y4(a:cV)(s:St):Instr:=
 match s.bn.getLast? with
 |some f=>bH a f
 |none=>⟨0,0,0,0,[],[]⟩
def OO(a:cV)(s:St):Bool:=
 match s.bn.getLast? with
 |some f=>decide ((bH a f).op=6/\(bH a f).cY≠0/\D f.cQ ((bH a f).cY -1)≠0)
 |none=>false
theorem jf.pd{h:ah}{b:Nat}(d:jf (pd h) b):jf h b:=by
 let⟨c,a,e⟩:=d;unfold Go.Proofs.YtbbbdejieenniaaGreat.pd at a;rw[lE]at a;split at a
 .exact⟨c,a,e⟩
 .simp at a
theorem jf.Km{h:ah}{w:Int}(d:iH h w)(c:dD){b:Nat}(e:jf (h.set (ix w) c) b):jf h b:=by
 by_cases a:b=ix w
 .subst a;exact d.2
 .grind [jf.ne]
def jf.kK:∀(c:ab)(h:ah)(a:Nat),(∀w∈c,iH h w)->jf (kK h c) a->jf h a
 |[],_,_,_,d=>d
 |w::c,h,a,e,d=>by
  have f:=e w cK;exact(jf.pX f (b:=a)).1 (jf.kK c _ a (λv g=>⟨(e v (aW _ g)).1,(jf.pX f).2 (e v (aW _ g)).2⟩) d)
theorem jf.jx:∀(n:Nat)(h:ah)(j:ab),DL h+j.length<=n->∀b,jf (jx h j) b->jf h b
 |n,h,[],_,b,a=>by rw[uB]at a;exact a
 |0,h,w::r,d,b,_=>by simp at d
 |n+1,h,w::r,d,b,a=>by
  simp only[dE]at d;rcases fP (iH h w)with c|c
  .let⟨g,i⟩:=dH c;by_cases e:(bt h w).ct=1
   .have f:=lY (d:=kN) g;simp only[ba i,kN]at f;simp at f;rw[uC c e]at a;exact jf.Km c _ (jf.jx n _ _ (by simp[kN];omega) b a)
   .have f:=lY (d:={bt h w with ct:=(bt h w).ct -1}) g;simp only[ba i]at f;rw[ba V]at f;rw[sB c e]at a;exact jf.Km c _ (jf.jx n _ _ cG b a)
  .rw[sC c]at a;exact jf.jx n _ _ V b a
theorem jf.iO{h:ah}{e:Nat->Int}(g:iW h e){w:Int}(d:iH h w){b:Nat}(a:jf (iO h w) b):jf h b:=by
 let⟨f,l⟩:=dH d;unfold Go.Proofs.YtbbbdejieenniaaGreat.iO at a;split at a
 .grind [jf.Km,jf.pd]
 .rename_i k;refine jf.Km d {bt h w with ct:=(bt h w).ct -1} (jf.kK _ _ _ (λv i=>?_) a);let⟨j,c⟩:=nN.1 i;have:=g.pQ (kv f) j c;refine⟨c,?_⟩;by_cases e:ix v=ix w
  .grind [jf.Gu,bt]
  .rw[jf.ne e];exact this.2
@[grind cases] structure afk (c:aak) (s:St):Prop where
 adS:abz s.aQ<=c.adS
 mQ:(s.bn.length:Int)<=c.mQ
 Wl:aex c.Wl s.aQ=c.Wl
@[grind cases] structure afl (n:Nat) (c:aak):Prop where
 bz:0<=c.bz/\c.bz<=n
 OP:0<=c.OP/\c.OP<=n
 P1:0<=c.P1/\c.P1<=n
 Y7:0<=c.Y7/\c.Y7<=n
 TW:0<=c.TW/\c.TW<=n
section
variable{a:cV}{s:St}{f:bS}{x:Instr}{bF:ab}{b:ak}
section
variable(h:eM a s)(e:s.dT=3)(c:(ns a s).dT=3)(d:s.bn=b++[f])
include h e c d
end
def OV{r:Int}(c:0<=r):∀(a bF:ab),(∀v∈a,0<=v/\v<bF.length/\v≠r)->D (eY bF a) r=D bF r
 |[],_,_=>rfl
 |v::a,bF,h=>by
  have b:=h v cK;simp only[eY];rw[OV c a _ λu d=>by rw[jC];exact h u (aW _ d),mO b.1 b.2.1 _ c,aU (λe=>b.2.2 e.symm)]
end
section
variable{b:cV}{s:St}{f:bS}{a:ak}
def aaL{l:ab}{i:Int}(h:0<=i/\i<l.length)(v:Int):D (gT l i v) i=v:=by grind [mO]
end
section
variable{a:Int}
structure tj where
 lD:Int
 bF:Int
 cR:Bool
 lx:Int
 fr:Int
 DS:Int
abbrev afr:=List tj
def yr:tj:=⟨-1,0,false,-1,-1,-1⟩
structure Kn where
 aT:afr
 eG:ab
abbrev aq:=List (Option Kn)
def Kn.r(k:Kn)(i:Int):tj:=(k.aT[i.toNat]?).getD yr
inductive qZ(k:Kn):Int->Prop
 |wF {i:Int}:0<(k.r i).bF\/(k.r i).cR=true->qZ k i
 |qd {i:Int}:0<=(k.r i).fr->qZ k (k.r i).fr->qZ k i
def Kn.tn(k:Kn)(i:Int)(g:tj->tj):Kn:={k with aT:=k.aT.modify i.toNat g}
def Kn.gZ(k:Kn)(i d:Int):Kn:=k.tn i λr=>{r with bF:=r.bF+d}
def Kn.Gt(k:Kn)(d f n:Int):Kn:=k.tn d λr=>{r with fr:=f,DS:=n}
def Kn.jJ(k:Kn)(i c:Int):Kn:=k.tn i λr=>{r with lx:=c}
def tm(d:Int)(r:tj):tj:=if r.fr=d then{r with fr:=-1,DS:=-1}else r
def Kn.eB(k:Kn)(d t o:Int):Kn:={k with aT:=(k.aT.set d.toNat ⟨t,o,false,-1,-1,-1⟩).map (tm d)}
section
variable{k:Kn}{i j d t o:Int}
def lF{g:tj->tj}:(k.tn j g).aT.length=k.aT.length:=by simp[Kn.tn]
theorem HM{g:tj->tj}(b:0<=j)(a:0<=i):(k.tn j g).r i=if i=j/\i<k.aT.length then g (k.r i)else k.r i:=by
 grind [Kn.r,Kn.tn,List.length,List.getElem?_eq_getElem,List.getElem?_eq_none]
def Bw:(k.eB d t o).aT.length=k.aT.length:=by simp[Kn.eB]
theorem Sj(hd:0<=d){r:tj}(h:r.fr= -1):tm d r=r:=by grind [tm]
theorem P7(hd:0<=d/\d<k.aT.length)(a:0<=i):(k.eB d t o).r i=if i=d then⟨t,o,false,-1,-1,-1⟩else tm d (k.r i):=by
 unfold Kn.r Kn.eB;simp only[eu];by_cases e:i=d
 .grind [List.getElem?_set_self,Sj]
 .rw[aU e,iY V];cases h:k.aT[i.toNat]? with
  |none=>exact(Sj hd.1 rfl).symm
  |some r=>rfl
end
inductive Vi(h:ah)(b:ak):Int->Prop
 |bF {f:bS} {i:Int}:f∈b->0<=i->0<D f.bF i->Vi h b (D f.aT i)
 |DS {v w:Int}:Vi h b v->w∈(bt h v).bU->1000<=v->1000<=w->Vi h b w
def rH(b:af)(t a r:Int):Prop:=∃d,1<=t/\b[t.toNat -1]? =some d/\d.dS=[]/\d.qd=a/\d.to=r
def Hz(e:cV)(g t:Int):Prop:=if g<cJ e then g∈cT e.bQ t else∃q a,e.cO[(g -cJ e).toNat]? =some q/\q.aX.getLast?=some a/\rH e.bQ t a q.bL
def FTy(e:cV)(g:Int):ab:=if g<cJ e then cW e.bQ g else(dy e (g -cJ e)).aX.dropLast
def YD(e:cV)(h:ah)(w t:Int):Prop:=(t=0->w<1000)/\(0<t->iH h w/\Hz e (bt h w).jJ t)
def HT(e:cV)(h:ah):Prop:=∀v,iH h v->∀(i:Nat)(w t:Int),(bt h v).bU[i]? =some w->(FTy e (bt h v).jJ)[i]? =some t->YD e h w t
def OL(h:ah)(f:bS):Prop:=∀i,0<=i->0<D f.bF i->iH h (D f.aT i)
def FC(h:ah):Prop:=∀v,iH h v->∀w∈(bt h v).bU,1000<=w->iH h w
def YC(h l:ah):Prop:=∀w,iH h w->iH l w->(bt l w).jJ=(bt h w).jJ/\(bt l w).bU=(bt h w).bU
@[grind cases] structure FW (im:cV) (h:ah) (fs:ak) (f:bS) (k:Kn):Prop where
 aS:k.aT.length=f.aT.length
 bF:∀i,0<=i->(k.r i).bF=D f.bF i
 pS:∀i,0<=i->(k.r i).lD=0->D f.aT i<1000
 SU:∀i,0<=i->0<(k.r i).lD->1000<=D f.aT i
 jJ:∀i,0<=i->qZ k i->0<(k.r i).lD->Hz im (bt h (D f.aT i)).jJ (k.r i).lD
 Sg:∀i,0<=i->0<=(k.r i).lx->1000<=D f.aT i
 lx:∀i,0<=i->qZ k i->0<=(k.r i).lx->(bt h (D f.aT i)).jJ=(k.r i).lx
 Gk:∀i,0<=i->0<=(k.r i).fr->1000<=D f.aT (k.r i).fr
 qd:∀i,0<=i->0<=(k.r i).fr->qZ k (k.r i).fr->(bt h (D f.aT (k.r i).fr)).bU[(k.r i).DS.toNat]? =some (D f.aT i)
 cR:∀i,0<=i->(k.r i).cR=true->Vi h fs (D f.aT i)
 kp:∀i,0<=i->D k.eG i<0->D f.cQ i=0
 yo:k.eG.length=k.aT.length
variable{e:cV}{h l:ah}{b m:ak}{f:bS}{k g:Kn}{w d t o:Int}
def Vi.aO(f:∀g∈b,g∈m)(r:Vi h b w):Vi h m w:=by
 induction r with
 |bF a c e=>exact .bF (f _ a) c e
 |DS _ c e d g=>exact .DS g c e d
def Vi.lv(i:∀g∈b,OL h g)(f:FC h)(r:Vi h b w)(j:1000<=w):iH h w:=by
 induction r with
 |bF a c e=>exact i _ a _ c e
 |DS _ c e d g=>exact f _ (g e) _ c d
theorem Vi.ns(j:∀g∈b,OL h g)(k:∀g∈b,OL l g)(g:FC h)(i:FC l)(m:YC h l)(r:Vi h b w):Vi l b w:=by
 induction r with
 |bF a e c=>exact .bF a e c
 |DS r e c d f=>exact .DS f (by rw[(m _ (r.lv j g c) (f.lv k i c)).2];exact e) c d
def FW.iH(F:FW e h b f k)(m:∀g∈b,OL h g)(l:OL h f)(g:FC h){i:Int}(a:qZ k i)(d:0<=i)(j:1000<=D f.aT i):iH h (D f.aT i):=by
 induction a with
 |wF c=>
  rcases c with c|c
  .exact l _ d cG
  .exact(F.cR _ d c).lv m g j
 |qd c a n=>exact g _ (n c (F.Gk _ d c)) _ (aZ (F.qd _ d c a)) j
def FW.adN(F:FW e h b f k)(m:∀g∈b,OL h g)(r:OL h f)(j:FC h)(n:∀g∈b,OL l g)(s:OL l f)(g:FC l)(q:YC h l){i:Int}(a:qZ k i)(d:0<=i)(o:1000<=D f.aT i):Go.Proofs.YtbbbdejieenniaaGreat.iH l (D f.aT i):=by
 induction a with
 |wF c=>
  rcases c with c|c
  .exact s _ d cG
  .exact((F.cR _ d c).ns m n j g q).lv n g o
 |qd c a t=>
  have u:=F.iH m r j a c (F.Gk _ d c);have p:=t c (F.Gk _ d c);exact g _ p _ (by rw[(q _ u p).2];exact aZ (F.qd _ d c a)) o
def FW.pM(F:FW e h b f k)(j:∀g∈b,OL h g)(o:OL h f)(d:FC h)(p:∀g∈b,OL l g)(r:OL l f)(n:FC l)(g:YC h l):FW e l b f k:=by
 have S:∀{i:Int},qZ k i->0<=i->1000<=D f.aT i->_:=λa c q=>g _ (F.iH j o d a c q) (F.adN j o d p r n g a c q);refine⟨F.aS,F.bF,F.pS,F.SU,λi c a t=>?_,F.Sg,λi c a s=>?_,F.Gk,λi c m a=>?_,λi c m=>(F.cR i c m).ns j p d n g,F.kp,F.yo⟩
 .grind [FW.SU,FW.jJ]
 .grind [FW.Sg,FW.lx]
 .grind [FW.Gk,FW.qd]
@[grind cases] structure vG (k k':Kn):Prop where
 aS:k'.aT.length=k.aT.length
 bF:∀i,0<=i->(k'.r i).bF=(k.r i).bF
 lD:∀i,0<=i->(k'.r i).lD=(k.r i).lD\/(k'.r i).lD= -1
 lx:∀i,0<=i->(k'.r i).lx=(k.r i).lx\/(k'.r i).lx= -1
 fr:∀i,0<=i->((k'.r i).fr=(k.r i).fr/\(k'.r i).DS=(k.r i).DS)\/(k'.r i).fr= -1
 cR:∀i,0<=i->(k'.r i).cR=true->(k.r i).cR=true
 eG:k'.eG=k.eG
theorem vG.cZ(k:Kn):vG k k:=by constructor<;>grind
def vG.O{a c f:Kn}(h:vG a c)(g:vG c f):vG a f:=
 ⟨g.aS.trans h.aS,λi b=>(g.bF i b).trans (h.bF i b),λi b=>(g.lD i b).elim (λe=>(h.lD i b).imp e.trans e.trans) bG,λi b=>(g.lx i b).elim (λe=>(h.lx i b).imp e.trans e.trans) bG,
  λi b=>(g.fr i b).elim (λe=>(h.fr i b).imp (λd=>⟨e.1.trans d.1,e.2.trans d.2⟩) e.1.trans) bG,λi b e=>h.cR i b (g.cR i b e),g.eG.trans h.eG⟩
theorem qZ.of(d:∀i,0<=i->0<(g.r i).bF->qZ k i)(c:∀i,0<=i->(g.r i).cR=true->qZ k i)(f:∀i,0<=i->0<=(g.r i).fr->(k.r i).fr=(g.r i).fr){i:Int}(a:qZ g i)(b:0<=i):qZ k i:=by
 induction a with
 |wF e=>exact e.elim (d _ b) (c _ b)
 |qd e a h=>exact .qd cG cG
theorem vG.alv(w:vG k g){i:Int}(a:qZ g i)(b:0<=i):qZ k i:=
 by grind [qZ.of,qZ.wF,vG.bF,vG.cR,vG.fr]
def FW.Wv(F:FW e h b f k)(w:vG k g):FW e h b f g:=by
 refine⟨w.aS.trans F.aS,λi c=>(w.bF i c).trans (F.bF i c),λi c d=>?_,λi c d=>?_,λi c a d=>?_,λi c d=>?_,λi c a d=>?_,λi c d=>?_,λi c d a=>?_,λi c d=>F.cR i c (w.cR i c d),by rw[w.eG];exact F.kp,by rw[w.eG,w.aS];exact F.yo⟩
 .grind [vG.lD,FW.pS]
 .grind [vG.lD,FW.SU]
 .grind [vG.lD,FW.jJ,vG.alv]
 .grind [vG.lx,FW.Sg]
 .grind [vG.lx,FW.lx,vG.alv]
 .grind [vG.fr,FW.Gk]
 .grind [vG.fr,FW.qd,vG.alv]
def FW.oT(F:FW e h b f k){bF:ab}(l:∀i,0<=i->g.r i={k.r i with bF:=D bF i})(m:g.aT.length=k.aT.length/\g.eG=k.eG)(j:∀i,0<=i->0<D bF i->qZ k i):FW e h b {f with bF:=bF} g:=by
 have A:∀{i:Int},qZ g i->0<=i->qZ k i:=λa c=>a.of (λi c d=>j i c cG) (λi c d=>.wF (bG cG)) (λi c _=>by rw[l i c]) c;constructor<;>grind [FW.aS,FW.pS,FW.SU,FW.Sg,FW.cR,FW.kp,FW.yo,FW.jJ,FW.lx,FW.Gk,FW.qd]
def FW.pc(F:FW e h b f k){a:Int}:FW e h b {f with pc:=a} k:=⟨F.aS,F.bF,F.pS,F.SU,F.jJ,F.Sg,F.lx,F.Gk,F.qd,F.cR,F.kp,F.yo⟩
def FW.cQ(F:FW e h b f k){cQ eG:ab}(j:eG.length=k.eG.length)(g:∀i,0<=i->D eG i<0->D cQ i=0):FW e h b {f with cQ:=cQ} {k with eG:=eG}:=by
 have A:∀{i:Int},qZ {k with eG:=eG} i->qZ k i:=λa=>by
  induction a with
  |wF c=>exact .wF c
  |qd c _ d=>exact .qd c d
 exact⟨F.aS,F.bF,F.pS,F.SU,λi d a c=>F.jJ i d (A a) c,F.Sg,λi d a c=>F.lx i d (A a) c,F.Gk,λi d c a=>F.qd i d c (A a),F.cR,g,j.trans F.yo⟩
def FW.cB(F:FW e h b f k)(hd:0<=d/\d<f.aT.length/\d<f.bF.length)(q:t=0->w<1000)(t1:0<t->1000<=w)(s:0<o->0<t->Hz e (bt h w).jJ t):FW e h b (f.cB d w o) (k.eB d t o):=by
 have p:0<=d/\d<k.aT.length:=by grind [FW.aS]
 have R:∀i,0<=i->(k.eB d t o).r i=if i=d then⟨t,o,false,-1,-1,-1⟩else tm d (k.r i):=by grind [P7]
 have C:∀r:tj,(tm d r).lD=r.lD/\(tm d r).bF=r.bF/\(tm d r).cR=r.cR/\(tm d r).lx=r.lx/\(0<=(tm d r).fr->(tm d r).fr=r.fr/\(tm d r).DS=r.DS/\r.fr≠d):=λr=>by
  grind [tm]
 have l:∀i,0<=i->D (f.cB d w o).aT i=if i=d then w else D f.aT i:=λi c=>mO hd.1 hd.2.1 i c
 have n:∀i,0<=i->D (f.cB d w o).bF i=if i=d then o else D f.bF i:=λi c=>mO hd.1 hd.2.2 i c
 have A:∀{i:Int},qZ (k.eB d t o) i->0<=i->(i=d/\0<o)\/(i≠d/\qZ k i):=λa=>by
  induction a with
  | @wF i g=>
   intro c;rw[R i c]at g;by_cases j:i=d
   .grind
   .grind [qZ.wF]
  | @qd i g a m=>
   intro c;have m:=m g;rw[R i c]at g m;by_cases j:i=d
   .grind
   .grind [qZ.qd]
 refine⟨by rw[Bw,F.aS];simp[bS.cB,jC],λi c=>?_,λi c g=>?_,λi c g=>?_,λi c a g=>?_,λi c g=>?_,λi c a g=>?_,λi c g=>?_,λi c g a=>?_,λi c g=>?_,F.kp,by rw[Bw];exact F.yo⟩
 .rw[R i c,n i c];split
  .rfl
  grind [FW.bF]
 .rw[R i c]at g;rw[l i c];by_cases j:i=d
  .grind
  grind [FW.pS]
 .rw[R i c]at g;rw[l i c];by_cases j:i=d
  .grind
  grind [FW.SU]
 .have A:=A a c;rw[R i c]at g⊢;rw[l i c];rcases A with⟨j,m⟩|⟨j,a⟩
  .grind
  grind [FW.jJ]
 .rw[R i c]at g;rw[l i c];by_cases j:i=d
  .grind
  .rw[aU j]at g⊢;rw[(C _).2.2.2.1]at g;exact F.Sg i c g
 .have A:=A a c;rw[R i c]at g⊢;rw[l i c];rcases A with⟨j,m⟩|⟨j,a⟩
  .grind
  grind [FW.lx]
 .rw[R i c]at g⊢;by_cases j:i=d
  .grind
  .rw[aU j]at g⊢;have m:=(C _).2.2.2.2 g;rw[m.1]at g⊢;rw[l _ g,aU m.2.2];exact F.Gk i c g
 .rw[R i c]at g a⊢;rw[l i c];by_cases j:i=d
  .grind
  grind [FW.qd]
 .rw[R i c]at g;rw[l i c];by_cases j:i=d
  .grind
  grind [FW.cR]
def FW.pL(F:FW e h b f k)(hd:0<=d/\d<k.aT.length){n:Int}(q:0<=a/\a≠d)(o:(k.r d).bF=0/\(k.r d).cR=false)(p:∀i,0<=i->(k.r i).fr≠d)(r:(k.r d).lx<0)(t:1000<=D f.aT a)
 (u:qZ k a->0<(k.r d).lD->Hz e (bt h (D f.aT d)).jJ (k.r d).lD)(s:qZ k a->(bt h (D f.aT a)).bU[n.toNat]? =some (D f.aT d)):FW e h b f (k.Gt d a n):=by
 have R:∀i,0<=i->(k.Gt d a n).r i=if i=d then{k.r i with fr:=a,DS:=n}else k.r i:=λi c=>by
  grind [Kn.Gt,HM]
 have A:∀{i:Int},qZ (k.Gt d a n) i->0<=i->(i=d/\qZ k a)\/(i≠d/\qZ k i):=λj=>by
  induction j with
  | @wF i g=>
   intro c;rw[R i c]at g;by_cases m:i=d
   .grind
   .grind [qZ.wF]
  | @qd i g j l=>
   intro c;have l:=l g;rw[R i c]at g l;by_cases m:i=d
   .grind
   .grind [qZ.qd]
 refine⟨by unfold Kn.Gt;rw[lF,F.aS],λi c=>?_,λi c g=>?_,λi c g=>?_,λi c j g=>?_,λi c g=>?_,λi c j g=>?_,λi c g=>?_,λi c g j=>?_,λi c g=>?_,F.kp,by unfold Kn.Gt;rw[lF];exact F.yo⟩
 .grind [FW.bF]
 .grind [FW.pS]
 .grind [FW.SU]
 .grind [FW.jJ]
 .grind [FW.Sg]
 .grind [FW.lx]
 .grind [FW.Gk]
 .grind [FW.qd]
 .grind [FW.cR]
def FW.arm(F:FW e h b f k){g:Int}(l:0<=a)(n:1000<=D f.aT a)(m:(bt h (D f.aT a)).jJ=g):FW e h b f (k.jJ a g):=by
 have R:∀i,0<=i->((k.jJ a g).r i).lD=(k.r i).lD/\((k.jJ a g).r i).bF=(k.r i).bF/\((k.jJ a g).r i).cR=(k.r i).cR/\((k.jJ a g).r i).fr=(k.r i).fr/\((k.jJ a g).r i).DS=(k.r i).DS/\(((k.jJ a g).r i).lx=(k.r i).lx\/i=a/\((k.jJ a g).r i).lx=g):=λi c=>by
  constructor<;>grind [Kn.jJ,HM]
 have A:∀{i:Int},qZ (k.jJ a g) i->0<=i->qZ k i:=λj c=>j.of (λi c d=>.wF (bu cG)) (λi c d=>.wF (bG cG)) (λi c _=>((R i c).2.2.2.1).symm) c;refine⟨by unfold Kn.jJ;rw[lF,F.aS],λi c=>(R i c).2.1.trans (F.bF i c),λi c d=>F.pS i c ((R i c).1▸d),λi c d=>F.SU i c ((R i c).1▸d),λi c j d=>?_,λi c d=>?_,λi c j d=>?_,λi c d=>?_,λi c d j=>?_,λi c d=>F.cR i c ((R i c).2.2.1▸d),F.kp,by unfold Kn.jJ;rw[lF];exact F.yo⟩
 .grind [FW.jJ]
 .grind [FW.Sg]
 .grind [FW.lx]
 .grind [FW.Gk]
 .grind [FW.qd]
end
section
variable{f:dD}
def yF(h i:ah):Prop:=∀(a:Nat)(b:dD),i[a]? =some b->0<b.ct->∃f,h[a]? =some f/\0<f.ct/\b.jJ=f.jJ/\b.bU=f.bU
def yF.cZ(h:ah):yF h h:=λ_ f e p=>⟨f,e,p,rfl,rfl⟩
theorem yF.O{a b f:ah}(h:yF a b)(g:yF b f):yF a f:=λi e j k=>by
 let⟨d,hd,c,l,m⟩:=g i e j k;let⟨p,r,q,n,o⟩:=h i d hd c;grind
theorem yF.eB{h:ah}{a:Nat}(c:0<f.ct->∃d,h[a]? =some d/\0<d.ct/\f.jJ=d.jJ/\f.bU=d.bU):yF h (h.set a f):=λb e g i=>by
 grind [List.getElem?_set_self',oW]
theorem yF.at1{h:ah}{w:Int}(b:iH h w)(a:0<f.ct->f.jJ=(bt h w).jJ/\f.bU=(bt h w).bU):yF h (h.set (ix w) f):=
 by grind [yF.eB,dH]
theorem yF.pd{h:ah}:yF h (pd h):=λb e a c=>by
 grind [pd]
def yF.kK:∀(j:ab)(h:ah),(∀w∈j,iH h w)->yF h (kK h j)
 |[],h,_=>.cZ h
 |w::j,h,a=>by
  have b:=a w cK;exact(yF.at1 b (f:={bt h w with ct:=(bt h w).ct+1}) λ_=>⟨rfl,rfl⟩).O (yF.kK j _ λv d=>⟨(a v (aW _ d)).1,(jf.pX b).2 (a v (aW _ d)).2⟩)
theorem yF.jx:∀(n:Nat)(h:ah)(i:ab),DL h+i.length<=n->yF h (jx h i)
 |n,h,[],_=>by rw[uB];exact .cZ h
 |0,h,w::r,b=>by simp at b
 |n+1,h,w::r,b=>by
  simp only[dE]at b;rcases fP (iH h w)with a|a
  .let⟨f,g⟩:=dH a;by_cases d:(bt h w).ct=1
   .have e:=lY (d:=kN) f;simp only[ba g,kN]at e;simp at e;rw[uC a d];exact(yF.at1 a (f:=kN) λh=>by simp[kN]at h).O (yF.jx n _ _ (by simp[kN];omega))
   .have e:=lY (d:={bt h w with ct:=(bt h w).ct -1}) f;simp only[ba g]at e;rw[ba V]at e;rw[sB a d];exact(yF.at1 a (f:={bt h w with ct:=(bt h w).ct -1}) λ_=>⟨rfl,rfl⟩).O (yF.jx n _ _ cG)
  .rw[sC a];exact yF.jx n _ _ V
theorem yF.iO{h:ah}{e:Nat->Int}(f:iW h e){w:Int}(b:iH h w):yF h (iO h w):=by
 let⟨d,k⟩:=dH b;unfold Go.Proofs.YtbbbdejieenniaaGreat.iO;split
 .grind [yF.at1,kN,yF.O,yF.pd]
 .rename_i j;refine(yF.at1 b (f:={bt h w with ct:=(bt h w).ct -1}) λ_=>⟨rfl,rfl⟩).O (yF.kK _ _ λv g=>?_);let⟨i,a⟩:=nN.1 g;have:=f.pQ (kv d) i a;refine⟨a,?_⟩;by_cases e:ix v=ix w
  .grind [jf.Gu,bt]
  .rw[jf.ne e];exact this.2
variable{k:cV}{h i:ah}{w:Int}{e:Nat->Int}
def yF.lv(H:yF h i)(l:iH i w):iH h w/\(bt i w).jJ=(bt h w).jJ/\(bt i w).bU=(bt h w).bU:=by
 let⟨f,a,d,b,c⟩:=H _ _ (dH l).1 (dH l).2;have:bt h w=f:=by simp[bt,a]
 exact⟨⟨l.1,f,a,d⟩,this▸b,this▸c⟩
def yF.Th(H:yF h i):YC h i:=λ_ _ l=>(H.lv l).2
def FC.of(a:iW h e):FC h:=λv c w d b=>a.pQ (kv (dH c).1) d b
def YD.pM{t:Int}(H:YD k h w t)(c:YC h i)(a:1000<=w->iH i w):YD k i w t:=
 ⟨H.1,λb=>let⟨l,g⟩:=H.2 b;⟨a l.1,by rw[(c _ l (a l.1)).1];exact g⟩⟩
def HT.pM(H:HT k h)(W:yF h i)(e:FC i):HT k i:=λv a j w t b g=>by
 let⟨l,c,d⟩:=W.lv a;refine(H v l j w t (d▸b) (c▸g)).pM W.Th λf=>e v a w (aZ b) f
@[grind cases] structure WE (h h':ah) (a:Nat) (g:Int) (ws:ab):Prop where
 old:¬jf h a
 bI:h'[a]? =some ⟨1,g,ws⟩
 oth:∀b,b≠a->h'[b]? =h[b]?
variable{a:Nat}{g:Int}{j:ab}
def WE.Th(N:WE h i a g j):YC h i:=λw l _=>by
 have:ix w≠a:=λe=>N.old (e▸l.2);grind [bt,WE.oth]
def WE.ht(N:WE h i a g j)(H:HT k h)(n:FC i)(q:∀(c:Nat)(w t:Int),j[c]? =some w->(FTy k g)[c]? =some t->YD k h w t):HT k i:=λv l c w t b d=>by
 by_cases e:ix v=a
 .have:bt i v=⟨1,g,j⟩:=by simp[bt,e,N.bI]
  have m:=aZ b;rw[this]at b d;exact(q c w t b d).pM N.Th (n v l w m)
 .have:bt i v=bt h v:=by simp only[bt,N.oth _ e]
  have r:iH h v:=by let⟨a,f,o,p⟩:=l;exact⟨a,f,by rw[<-N.oth _ e];exact o,p⟩
  have m:=aZ b;rw[this]at b d;exact(H v r c w t b d).pM N.Th (n v l w m)
theorem WE.jB(d:iW h e):WE h (jB h (fD h) ⟨1,g,j⟩) (fD h) g j:=by
 have i:=sY h;refine⟨λ⟨f,a,k⟩=>oh (Bb h f a),?_,λb c=>?_⟩
 .grind [jB,List.getElem?_append_right,List.getElem?_set_self]
 .grind [jB,Nat.lt_or_ge,List.length,List.getElem?_append_left,List.getElem?_append_right,List.getElem?_eq_none,oW]
def WE.eB(b:h[a]? =some f)(c:¬0<f.ct):WE h (h.set a ⟨1,g,j⟩) a g j:=
 ⟨λ⟨d,hd,i⟩=>by rw[b]at hd;cases hd;exact c i,k8 b,λ_ e=>oW e⟩
end
section
variable{k:Kn}{j n:Int}
def fJ(k:Kn):ab->Kn
 |[]=>k
 |r::a=>fJ (if(k.r r).lD=0 then k else k.gZ r (-1)) a
def Kb(t:Int):Int:=if 0<t then 1 else 0
def pZ(k:Kn)(a:ab):ab:=a.map λr=>(k.r r).lD
def fZ(a:cV)(b cE:Int)(c:ab)(t:Int):Prop:=
 if b=0 then t=0/\c=[]
 else if b=1\/b=2\/b=3\/b=4 then t=0/\c=[0,0]
 else if b=5 then t=0/\c=[0]
 else if b=6 then cE∈cT a.bQ t/\c=cW a.bQ cE
 else if b=9 then∃q,a.cO[cE.toNat]? =some q/\c=q.aX/\t=q.bL
 else if b=10 then∃q d,a.cO[cE.toNat]? =some q/\q.aX=c++[d]/\rH a.bQ t d q.bL
 else if b=11 then∃u d,c=[u,d]/\rH a.bQ u d t
 else False
def ux(a:cV)(p:dP)(x:Instr)(b:ab)(t:Int):Prop:=
 if x.op=20 then b=[0]else if x.op=23 then b=[p.bL]/\t=p.bL else if x.op=24 then fZ a 9 x.cE b t/\t=p.bL else fZ a x.op x.cE b t
open Classical in
def XK(p:dP)(a:cV)(k:Kn)(x:Instr)(t:Int)(c:Kn):Prop:=
 let b:=fJ k (bY a x)
 (∀r∈bY a x,0<=(b.r r).bF)/\((x.op=9\/x.op=24)->∀r∈fe a x 0 x.aN,qZ b r)/\
 if x.op=23\/x.op=24 then(∀i,0<=i->(b.r i).bF<=0)/\(∀n∈b.eG,n<0)/\c=b
 else
  let d:Kn:=if x.cY=0 then b else{b with eG:=gT b.eG (x.cY -1) (-1)}
  if kM x.op then(b.r x.br).bF<=0/\c=d.eB x.br t (Kb t)else c=d
def jA(k:Kn):ab->Kn
 |[]=>k
 |r::a=>jA (k.gZ r 1) a
def vF(a:cV)(p:dP)(k:Kn)(x:Instr)(c:Kn):Prop:=
 let b:=D x.aN 0
 if x.op=22 then c=k
 else if x.op=14 then 0<(k.r b).lD/\qZ k b/\c=k.gZ b 1
 else if x.op=15 then 0<(k.r b).lD/\c=k.gZ b (-1)
 else if x.op=16\/x.op=17 then 0<(k.r b).bF/\(∀r∈x.aN.drop 1,(k.r r).fr=b)/\
  ∃n:Int,0<=n/\c={jA (k.gZ b (-1)) (x.aN.drop 1)with eG:=if x.op=17 then gT k.eG b n else k.eG}
 else if x.op=18 then 0<=(k.r b).lD/\0<=((fJ k [b]).r b).bF/\((fJ k [b]).r x.br).bF<=0/\c=(fJ k [b]).eB x.br (k.r b).lD (Kb (k.r b).lD)
 else if x.op=19 then qZ k b/\0<=(k.r b).lx/\∃t,(cW a.bQ (k.r b).lx)[x.cE.toNat]? =some t/\(k.r x.br).bF<=0/\c=(if x.br=b then k.eB x.br t 0 else(k.eB x.br t 0).Gt x.br b x.cE)
 else∃t,ux a p x (pZ k x.aN) t/\XK p a k x t c
def Ot(p:dP):Kn:=⟨(List.range p.aT.toNat).map λi=>if i<p.aX.length then⟨D p.aX i,if D p.aX i≠0/\(i:Int)∉p.cR then 1 else 0,decide ((i:Int)∈p.cR),-1,-1,-1⟩else yr,List.replicate p.aT.toNat (-1)⟩
def tp(x:Instr)(k:Nat):ab:=
 if x.op=22 then[x.cE]else if x.op=20 then[(k:Int)+1,x.cE]else if x.op=21 then x.fQ else if x.op=23\/x.op=24 then[]else[(k:Int)+1]
@[grind cases] structure rj (im:cV) (p:dP) (rL:Nat->Option Kn):Prop where
 aS:∀(at_:Nat)(k:Kn),rL at_=some k->(k.aT.length:Int)=p.aT
 first:∃k,rL 0=some k/\vG (Ot p) k
 ns:∀(at_:Nat)(x:Instr)(k:Kn),p.cF[at_]? =some x->rL at_=some k->x.op≠21->∃k',vF im p k x k'/\∀n∈tp x at_,∃k1,rL n.toNat=some k1/\vG k' k1
 sM:∀(at_:Nat)(x:Instr)(k:Kn),p.cF[at_]? =some x->rL at_=some k->x.op=21->(k.r (D x.aN 0)).lD=x.cE/\qZ k (D x.aN 0)/\
  ∀(i:Nat)(c:Int),(cT im.bQ x.cE)[i]? =some c->(k.r (D x.aN 0)).lx<0\/(k.r (D x.aN 0)).lx=c->∃k1,rL (D x.fQ i).toNat=some k1/\vG (k.jJ (D x.aN 0) c) k1
@[grind cases] structure VS (im:cV) (rL:Nat->Nat->Option Kn) (s:St):Prop where
 aQ:HT im s.aQ
 first:∀f,s.bn[0]? =some f->(dy im f.fY).bL=0
 jz:∀fs f,s.bn=fs++[f]->∃k,rL f.fY.toNat f.pc.toNat=some k/\FW im s.aQ fs f k
 sus:∀(j:Nat)(f g:bS),s.bn[j]? =some f->s.bn[j+1]? =some g->∃k,FW im s.aQ (s.bn.take j) f k/\(k.r g.br).bF<=0/\
  ∃k1,rL f.fY.toNat f.pc.toNat=some k1/\vG (k.eB g.br (dy im g.fY).bL (Kb (dy im g.fY).bL)) k1
variable{a:cV}{aT:ab}
theorem yG{i:Int}(b:0<=j/\j<k.aT.length)(a:0<=i):(k.gZ j n).r i={k.r i with bF:=(k.r i).bF+if i=j then n else 0}:=by
 unfold Kn.gZ;rw[HM b.1 a];by_cases e:i=j
 .grind
 .rw[aU λh=>e h.1,aU e,Int.add_zero]
theorem qT:(k.gZ j n).aT.length=k.aT.length:=lF
def pb:∀(a:ab)(k:Kn),(fJ k a).eG=k.eG
 |[],_=>rfl
 |r::a,k=>by rw[fJ,pb a];split<;>rfl
def wV:∀(a:ab)(k:Kn),(fJ k a).aT.length=k.aT.length
 |[],_=>rfl
 |r::a,k=>by
  rw[fJ,wV a];split
  .rfl
  .exact qT
def KX:∀(a:ab)(k:Kn)(bF:ab),(∀i,0<=i->(k.r i).bF=D bF i)->(∀r∈a,0<=r/\r<k.aT.length/\r<bF.length)->(∀r∈a,((k.r r).lD=0/\D aT r<1000)\/((k.r r).lD≠0/\1000<=D aT r))->
 ∀i,0<=i->(fJ k a).r i={k.r i with bF:=D (bV aT bF a) i}
 |[],k,bF,h,_,_,i,b=>by rw[fJ,bV,<-h i b]
 |r::a,k,bF,h,f,g,i,b=>by
  have l:=f r cK;rw[fJ,bV];rcases g r cK with⟨d,e⟩|⟨d,e⟩
  .rw[ba d,aU V];exact KX a k bF h (λv c=>f v (aW _ c)) (λv c=>g v (aW _ c)) i b
  .rw[aU d,ba e];rw[KX a (k.gZ r (-1)) (gT bF r (D bF r -1)) (λj m=>?_) (λv c=>?_) (λv c=>?_) i b,yG ⟨l.1,l.2.1⟩ b]
   .grind [yG,mO]
   .grind [qT,jC,List.mem_cons_of_mem]
   grind [List.mem_cons_of_mem,yG]
def Jz:∀(a bF:ab),(∀r∈a,0<=r/\r<bF.length)->∀i,0<=i->D (bV aT bF a) i<=D bF i/\(i∈a->1000<=D aT i->D (bV aT bF a) i<D bF i)
 |[],bF,_,i,_=>⟨dR _,sx⟩
 |r::a,bF,h,i,c=>by
  have e:=h r cK;rw[bV];split
  .have d:=Jz a (gT bF r (D bF r -1)) (λv b=>by rw[jC];exact h v (aW _ b)) i c;grind [mO]
  .have d:=Jz a bF (λv b=>h v (aW _ b)) i c;constructor<;>grind
def TO{l:ab}(h:∀o∈l,0<=o)(i:Int):0<=D l i:=by
 unfold D;rw[fE];cases e:l[i.toNat]? with
 |none=>simp
 |some x=>exact h x (aZ e)
def TF:∀(a:ab)(k:Kn)(bF:ab),(∀i,0<=i->(k.r i).bF=D bF i)->(∀r∈a,0<=r/\r<k.aT.length/\r<bF.length)->∀i,0<=i->(jA k a).r i={k.r i with bF:=D (eY bF a) i}
 |[],k,bF,h,_,i,b=>by rw[jA,eY,<-h i b]
 |r::a,k,bF,h,d,i,b=>by
  have c:=d r cK;rw[jA,eY,TF a (k.gZ r 1) (gT bF r (D bF r+1)) (λj e=>?_) (λv f=>?_) i b,yG ⟨c.1,c.2.1⟩ b]
  .grind [yG,mO]
  .grind [qT,jC,List.mem_cons_of_mem]
def OM:∀(a:ab)(k:Kn),(jA k a).aT.length=k.aT.length
 |[],_=>rfl
 |r::a,k=>by rw[jA,OM a,qT]
def ve:∀(a:ab)(k:Kn),(jA k a).eG=k.eG
 |[],_=>rfl
 |r::a,k=>by rw[jA,ve a];rfl
end
section
variable{P mC:ak}{c:bS}{b:dP}
def adh(a:cV)(rL:Nat->Nat->Option Kn)(h:ah)(d:ak)(f:bS):Prop:=∃k,rL f.fY.toNat f.pc.toNat=some k/\FW a h d f k
def Sus(a:cV)(rL:Nat->Nat->Option Kn)(h:ah)(d:ak)(f g:bS):Prop:=∃k,FW a h d f k/\(k.r g.br).bF<=0/\
 ∃b,rL f.fY.toNat f.pc.toNat=some b/\vG (k.eB g.br (dy a g.fY).bL (Kb (dy a g.fY).bL)) b
variable{a:cV}{s t:St}{rL:Nat->Nat->Option Kn}{h e:ah}{d:ak}{f g:bS}
def OL.of(j:eM a s):∀g∈s.bn,OL s.aQ g:=λg o i n u=>by
 have H:=j.bn g o;have r:i<g.bF.length:=by
  grind [Int.lt_or_le,List.length,D,List.getElem?_eq_none]
 have w:=H.lr;have x:=H.lo;have k:=jG n r;have m:=jG (l:=g.aT) n V;have p:=(H.bF _ _ _ k m).2 u;refine⟨p,j.aQ.lv _ ?_⟩;have e:=PK H.Nd m k (nC p).symm;have:∀(b:ak),g∈b->(∀q∈b,fX a q)->D g.bF i<=oF b (ix (D g.aT i)):=λb=>by
  induction b with
  |nil=>intro h;simp at h
  |cons q b v=>
   intro t f;have y:=Am (aT:=q.aT) (f q cK).Nd (ix (D g.aT i));have z:=Ke (λc d=>f c (aW _ d)) (ix (D g.aT i));simp only[oF];rcases aY.1 t with e|e
   .subst e;omega
   .have:=v e λc d=>f c (aW _ d);omega
 have:=this _ o j.bn;omega
def UH(t:VS a rL s)(J:s.bn=P++c::mC)(p:∀g∈P,OL s.aQ g)(r:∀g∈P,OL e g)(y:FC s.aQ)(z:FC e)(H:YC s.aQ e)(hd:g.br=c.br)(K:(dy a g.fY).bL=(dy a c.fY).bL)
 (l:ak){j:Nat}{b f:bS}(n:(P++g::l)[j]? =some b)(I:(P++g::l)[j+1]? =some f)(A:j<P.length):Sus a rL e ((P++g::l).take j) b f:=by
 rw[dX A]at n
 have k:∀q∈P.take j,q∈P:=by grind [List.mem_of_mem_take]
 have o:=aZ n
 have G:∃d,s.bn[j+1]? =some d/\f.br=d.br/\(dy a f.fY).bL=(dy a d.fY).bL:=by
  grind [Nat.lt_or_ge,List.length,List.getElem?_append_left,List.getElem?_append_right]
 let⟨d,v,i,u⟩:=G
 have w:s.bn.take j=(P++g::l).take j:=cG
 have m:(P++g::l).take j=P.take j:=rh V
 let⟨D,F,B,E,x,C⟩:=t.sus j b d cG v
 rw[w]at F
 refine⟨D,F.pM (λq h=>p q (k q (m▸h))) (p b o) y (λq h=>r q (k q (m▸h))) (r b o) z H,by rw[i];exact B,E,x,by rw[i,u];exact C⟩
def Uh(V:VS a rL s){l:ak}(b:s.bn=P++c::mC)(e:(dy a g.fY).bL=(dy a c.fY).bL)(f:t.bn=P++g::l):∀q,t.bn[0]? =some q->(dy a q.fY).bL=0:=λq d=>by
 grind [VS.first]
def VS.of1(V:VS a rL s)(j:s.bn=P++c::mC)(q:∀g∈P,OL s.aQ g)(r:∀g∈P,OL t.aQ g)(n:FC s.aQ)(o:FC t.aQ)(u:YC s.aQ t.aQ)(hd:g.br=c.br)(k:(dy a g.fY).bL=(dy a c.fY).bL)
 (b:t.bn=P++[g])(p:HT a t.aQ)(T:adh a rL t.aQ P g):VS a rL t:=by
 refine⟨p,Uh V j k b,λd f e=>?_,λx v w h i=>?_⟩
 .rw[b]at e
  let⟨l,m⟩:=List.append_inj' e rfl
  cases m;subst l;exact T
 .rw[b]at h i⊢
  exact UH V j q r n o u hd k [] h i cG
def VS.of2{n:bS}(j:VS a rL s)(k:s.bn=P++[c])(v:∀g∈P,OL s.aQ g)(w:∀g∈P,OL t.aQ g)(q:FC s.aQ)(r:FC t.aQ)(x:YC s.aQ t.aQ)(hd:g.br=c.br)(l:(dy a g.fY).bL=(dy a c.fY).bL)
 (i:t.bn=P++[g,n])(u:HT a t.aQ)(S:Sus a rL t.aQ P g n)(T:adh a rL t.aQ (P++[g]) n):VS a rL t:=by
 refine⟨u,Uh j k l i,λd f e=>?_,λm y z h b=>?_⟩
 .rw[i,show P++[g,n]=(P++[g])++[n]by simp]at e
  let⟨o,p⟩:=List.append_inj' e rfl
  cases p;subst o;exact T
 .rw[i]at h b⊢
  rcases eJ m P.length with e|e
  .exact UH j k v w q r x hd l [n] h b e
  .have o:=bA b
   simp at o
   have:m=P.length:=V
   subst this
   simp at h b
   subst h;subst b
   rw[show(P++[g,n]).take P.length=P by simp];exact S
def En(cR:ab):∀(a:ab)(k i:Nat)(w:Int),a[i]? =some w->(fI cR k a)[i]? =some (if cR.any (λy=>y==((k+i:Nat):Int))then 0 else gE w)
 |[],_,_,_,h=>by simp at h
 |v::a,k,0,w,h=>by simp at h;subst h;rfl
 |v::a,k,i+1,w,h=>by
  rw[fI,jZ,En cR a (k+1) i w cG,show k+1+i=k+(i+1)by omega]
def adM(c:(b.aX.length:Int)<=b.aT){i:Int}(a:0<=i):(Ot b).r i=if i<b.aX.length then⟨D b.aX i,if D b.aX i≠0/\i∉b.cR then 1 else 0,decide (i∈b.cR),-1,-1,-1⟩else yr:=by
 grind [Kn.r,Ot,Nat.lt_or_ge,List.getElem?_range,List.length,List.getElem?_eq_none]
def FW.bI{n l:Int}{j:ab}(r:dy a n=b)(v:(b.aX.length:Int)<=b.aT)(k:j.length=b.aX.length)(x:∀t∈b.aX,0<=t)(y:∀(c:Nat)(w t:Int),j[c]? =some w->b.aX[c]? =some t->YD a h w t)(z:∀c:Int,c∈b.cR->0<=c->c<j.length->Vi h d (D j c)):FW a h d (cq a n l j) (Ot b):=by
 have R:=λc e=>adM (b:=b) v (i:=c) e;have m:∀c,0<=c->D (cq a n l j).aT c=if c<j.length then D j c else 0:=λc e=>by
  grind [cq,D,List.getElem?_append_left,List.getElem?_append_right,eQ,dy,List.length,pG,aZ]
 have u:∀c,0<=c->D (cq a n l j).bF c=if c<j.length then(if c∈b.cR then 0 else gE (D j c))else 0:=λc e=>by
  simp only[cq,D,fE];split
  .rename_i f;let⟨w,g⟩:=dY j c.toNat;rw[dX (by rw[lU];omega),En _ _ _ _ _ g,g,r];grind [List.any_eq_true]
  .grind [List.getElem?_append_right,lU,eQ,dy,List.length,fI,pG,aZ]
 have W:∀c:Int,0<=c->c<b.aX.length->YD a h (D j c) (D b.aX c):=λc e g=>y c.toNat _ _ (jG e V) (jG e g);have s:∀c,0<=c->((Ot b).r c).fr= -1:=λc e=>by rw[R c e];split<;>rfl
 have nc:∀c,0<=c->((Ot b).r c).lx= -1:=λc e=>by rw[R c e];split<;>rfl
 refine⟨by simp[Ot,cq,eQ,r];omega,λc e=>?_,λc e f=>?_,λc e f=>?_,λc e _ f=>?_,λc e f=>absurd (nc c e) V,λc e _ f=>absurd (nc c e) V,λc e f=>absurd (s c e) V,λc e f=>absurd (s c e) V,λc e f=>?_,λc e _=>?_,by simp[Ot]⟩
 .rw[R c e,u c e,k];split
  .rename_i g;have w:=W c e g;have A:=TO x c;simp only;by_cases q:c∈b.cR
   .grind
   .rw[aU q];by_cases o:D b.aX c=0
    .rw[aU λh=>h.1 o];have:=w.1 o;unfold gE;rw[aU V]
    .rw[ba ⟨o,q⟩];have:=(w.2 V).1.1;unfold gE;rw[ba this]
  .rfl
 .rw[m c e,k];rw[R c e]at f;split at f
  .rename_i g;rw[ba g];exact(W c e g).1 f
  grind
 .rw[m c e,k];rw[R c e]at f;split at f
  .rename_i g;rw[ba g];exact((W c e g).2 f).1.1
  .simp[yr]at f
 .rw[m c e,k];rw[R c e]at f⊢;split at f
  .rename_i g;rw[ba g,ba g];exact((W c e g).2 f).2
  .simp[yr]at f
 .grind [yr]
 .grind [cq,D,eQ,dy,pG,aZ]
end
section
variable{d g c e i:Int}{l:ab}{k:Kn}
def OL.aey{h:ah}{g:bS}{w o:Int}(hd:0<=d/\d<g.aT.length/\d<g.bF.length)(e:D g.bF d<=0)(H:OL h (g.cB d w o)):OL h g:=λi a c=>by
 have b:i≠d:=cG;have:=H i a (by simp only[bS.cB];rw[mO hd.1 hd.2.2 i a,aU b];exact c);grind [bS.cB,mO]
theorem OL.iG{h:ah}{f:bS}{bF:ab}(H:OL h f)(b:∀i,0<=i->D bF i<=D f.bF i):OL h {f with bF:=bF}:=λi a c=>H i a cG
def Ub{a:af}(h:eP a)(c:Int):∀u∈cW a c,zQ a.length u:=by
 unfold cW;split
 .cases g:(gJ a)[c.toNat]? with
  |none=>simp
  |some f=>
   have e:=aZ g;unfold gJ at e;let⟨d,hd,b⟩:=List.mem_flatMap.1 e;let⟨k,i⟩:=cX.1 hd;have:=(h.eN k d i).iT (ac2 b);exact(this.2.2.2 f b).2
 .simp
def T9{a:af}{c:Int}{i:Nat}(h:(cW a c)[i]? =some g):0<=c/\c<(gJ a).length:=by
 grind [cW,gJ,bA]
def Vv{a:af}(h:eP a)(b:rH a g c e):1<=g/\zQ a.length c/\zQ a.length e:=by
 let⟨d,j,f,i,k,l⟩:=b;have:=(h.eN _ d f).PF (by simp[i]);grind
def acH{a:af}{b q:Int}(f:rH a g c e)(h:rH a g b q):c=b/\e=q:=by
 obtain⟨d,-,l,-,m,n⟩:=f;obtain⟨i,-,g2,-,j,k⟩:=h;grind
variable{b:cV}{s:St}{rL:Nat->Nat->Option Kn}{h:ah}{j:ak}{f:bS}{x:Instr}{p:dP}
def ZS(d:nh b.bQ b.cO){j cE:Int}(H:fZ b j cE l g):(∀u∈l,0<=u)/\0<=g:=by
 have T:=d.dh;have E:=λq i(h:b.cO[i]? =some q)=>d.eN q (aZ h);have F:=λu f=>(Ub T cE u f).1;have G:cE∈cT b.bQ g->1<=g:=λh=>(Ie h).1;have A:=λg c e h=>Vv (g:=g) (c:=c) (e:=e) T h;unfold fZ at H;unfold Hw zQ at*;grind
def Xz(a:nh b.bQ b.cO)(c:p∈b.cO)(H:ux b p x l g):∀u∈l,0<=u:=by
 have:=(a.eN p c).2.2;have S:=λd g h=>(ZS a (j:=d) (cE:=x.cE) (g:=g) (l:=l) h).1;unfold ux at H;unfold zQ at this;grind
def Xg:∀(l:ab)(k:Nat),∀e∈l,e∈iN b x k l\/e∈fe b x k l
 |[],_,e,h=>by simp at h
 |y::l,k,e,h=>by
  simp only[iN,fe];rcases aY.1 h with a|h
  .grind [List.mem_cons_self]
  .rcases Xg l (k+1) e h with a|a
   .grind [List.mem_cons_of_mem]
   grind [List.mem_cons_of_mem]
def FW.rtd(F:FW b h j f k)(c:qZ k i)(a:0<=i)(g:1000<=D f.aT i):Vi h (j++[f]) (D f.aT i):=by
 induction c with
 |wF e=>
  rcases e with e|e
  .grind [Vi.bF,FW.bF]
  .exact(F.cR _ a e).aO λl d=>dK _ d
 |qd e c d=>exact .DS (d e (F.Gk _ a e)) (aZ (F.qd _ a e c)) (F.Gk _ a e) g
def FW.afc(F:FW b h j f k)(g:∀i,0<=i->(k.r i).bF<=0)(c:qZ k i)(a:0<=i)(d:1000<=D f.aT i):Vi h j (D f.aT i):=by
 induction c with
 |wF e=>
  rcases e with e|e
  .have:=g _ a;omega
  .exact F.cR _ a e
 |qd e c l=>exact .DS (l e (F.Gk _ a e)) (aZ (F.qd _ a e c)) (F.Gk _ a e) d
def FW.wty(F:FW b h j f k)(l:∀g∈j,OL h g)(g:OL h f)(e:FC h)(a:0<=i)(d:0<(k.r i).lD->qZ k i):YD b h (D f.aT i) (k.r i).lD:=
 ⟨F.pS i a,λc=>⟨F.iH l g e (d c) a (F.SU i a c),F.jJ i a (d c) c⟩⟩
def aaw(hd:0<=d){e:tj}:(tm d e).fr≠d:=by
 grind [tm]
end
end Go.Proofs.YtbbbdejieenniaaGreat
