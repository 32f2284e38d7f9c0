/- Part of a proof, joined by a program. -/
import Derived.Test.YtakpkjhmbbfniaaGreatV11
import Derived.Test.YtakpkjhmbbfniaaGreatV15
set_option linter.unusedVariables false
set_option linter.unusedSimpArgs false
set_option linter.defProp false
set_option maxHeartbeats 8000000
set_option maxRecDepth 100000
namespace Go.Proofs.YtakpkjhmbbfniaaGreat
open Go.Vc
section
def AD(S:List Nat)(rb:Nat)(bs:Sl)(m:ah)(P:Nat)(v:Value)(m':ah):Prop:=∃s ds,v=Sl.v s/\br (aY S m') s ds/\Rd rb bs P m'/\Fz [rb] m m'
structure DD(S:List Nat)(rb:Nat)(bs:Sl)(m:ah)(Q:Nat)(M:ah)(s:Sl)(ds:List aS):Prop where
 g:GDl S m M s ds
 r:Rs rb bs m Q M
 l:0<ds.length/\ds.length<=100
section
variable{S:List Nat}{rb P Q Q' P':Nat}{bs s:Sl}{m M M':ah}{ds:List aS}
theorem DD.to(h:DD S rb bs m Q M s ds)(dx:rb∈S/\rb<m.size)(f:Fz [rb] M M')(r:Rs rb bs m Q' M'):DD S rb bs m Q' M' s ds:=⟨h.g.eg eX.mono f (by simp;exact dx),r,h.l⟩
theorem DD.ext(h:DD S rb bs m Q M s ds)(x:af M M'):DD S rb bs m Q M' s ds:=⟨h.g.ext eX.mono x,h.r.ext x,h.l⟩
theorem DD.dX(h:DD S rb bs m Q M s ds)(hS:∀c∈S,c<m.size):∀c∈s.ao::S,c<M.size:=λc hc=>(List.mem_cons.1 hc).elim (λe=>e▸h.g.aN.2) λe=>aFY (hS c e) h.r.f.size
theorem DD.lit(h:DD S rb bs m Q M s ds)(hS:∀c∈S,c<m.size)(l:List Int){cs:List Ce}{n:Nat}(kJ:cs=l.map Ce.i)(hn:n=l.length)(hl:l.length<=100):aj (aY (s.ao::S) (M.push (.cells (aU cs) au))) (.mk M.size 0 n n) l:=aj.lit au l (h.dX hS) kJ hn ab
theorem DD.fG(h:DD S rb bs m Q M s ds)(hS:∀c∈S,c<m.size)(hQ:Q<=P'):AD S rb bs m P' (Sl.v s) M:=⟨s,ds,rfl,h.g.done eX.mono hS aO (by have:=h.l;omega),h.r.r.mono hQ,h.r.f⟩
theorem DD.set(h:DD S rb bs m Q M s ds)(hS:∀c∈S,c<m.size)(h0:Rd rb bs P m)(hQ:Q<=P'){k:Int}(hk:0<=k/\k<(ds.length:Int)){cs:List Ce}{d:aS}(hd:eX (aY (s.ao::S) M) cs d):
 0<=k/\k<(s.len:Int)/\dW M s.ao (s.off+k.toNat*3) 3/\AD S rb bs m P' (Sl.v s) (ag M s.ao (s.off+k.toNat*3) cs):=by
 have hl:=h.g.len aO
 have y:=h.g.aN
 obtain⟨w,g,f,fr⟩:=h.g.set eX.mono h.r.f (k:=k.toNat) ab hd
 exact⟨hk.1,ab,w,s,_,rfl,g.done eX.mono hS aO (by have:=h.l;simp;omega),(h0.Mr h.r.r f (fr rb (by have:=h0.lt;omega))).mono hQ,f⟩
theorem DD.dY(h:DD S rb bs m Q M s ds)(hS:∀c∈S,c<m.size)(h0:Rd rb bs P m)(hQ:Q<=P'){cs:List Ce}{n:Nat}(l:List (aS×List Ce))(hd:∀x∈l,eX (aY (s.ao::S) M) x.2 x.1)(kJ:cs=l.flatMap (·.2))(hn:n=l.length)(hl:l.length<=100):
 gA (M.push (.cells (aU cs) gR)) gR [.i 0,.i 0,.s .nil] 40 s (.mk M.size 0 n n) λr M'=>AD S rb bs m P' (Sl.v r) M':=by
 have x:=af.push M (.cells (aU cs) gR)
 have y:=h.g.aN
 have H:=(zW eX.mono (h.dX hS) gR l hd kJ hn).done eX.mono (h.dX hS) aO bg
 have BP:=h.l
 refine Gr.all (zs:=[.i 0,.i 0,.s .nil]) eX.mono aO (h.ext x).g (h.ext x).r.f H bg λr m' g f z fr=>⟨r,_,rfl,g.done eX.mono hS aO bg,(h0.Mr (h.ext x).r.r f (fr rb (h.ext x).r.r.lt (by have:=h0.lt;omega))).mono hQ,f⟩
theorem I9(hS:∀c∈S,c<m.size)(dx:rb∈S)(h0:Rd rb bs P m)(hP:P+100<=10000000000000000):aD Tryz.prog 66 [vp rb 0] m (AD S rb bs m (P+6)):=by
 apply Ah (rb,0);have hr:=h0.lt;have Q8:rb∈S/\rb<m.size:=⟨dx,hr⟩;refine(uw hS dx h0 ab).mono λ_ m1⟨s,ds,e,g1,hds,d1,f1⟩=>⟨s,e,?_⟩;have D1:DD S rb bs m (P+1) m1 s ds:=⟨g1,⟨f1,d1⟩,by have:=nC ds hds;omega⟩;have sl:s.len=ds.length:=g1.len aO;have dl:=D1.l;refine(bo d1 ab (s.len:Int)).mono λ_ m2⟨k,e,k0,k1,d2,f2⟩=>⟨k,e,?_⟩;have D2:=D1.to Q8 f2 (D1.r.to f2 d2);have hk:0<=k/\k<(ds.length:Int):=ab;refine(bo d2 ab 14).mono λ_ m3⟨i,e,_,_,d3,f3⟩=>⟨i,e,?_⟩;have D3:=D2.to Q8 f3 (D2.r.to f3 d3);have QS:∀{M:ah},CSl M .nil []:=⟨rfl,aGq _,az,az⟩;have le:∀{M M':ah},af M M'->Le (aY (s.ao::S) M) (aY (s.ao::S) M'):=λx=>x.bO _;refine⟨λ_=>?_,λ_=>⟨λ_=>?_,λ_=>⟨λ_=>?_,λ_=>⟨λ_=>?_,λ_=>⟨λ_=>?_,λ_=>⟨λ_=>?_,λ_=>D3.fG hS ab⟩⟩⟩⟩⟩⟩
 ·refine(zl D3.r ab [-1,5,0,2] rfl rfl az).mono λ_ m4⟨t,e,_,r4,f4⟩=>⟨t,e,?_⟩;have D4:=(D3.ext (af.push m3 _)).to Q8 f4 r4;refine(zl r4 ab [0,1,5] rfl rfl az).mono λ_ m5⟨u,e,_,r5,f5⟩=>⟨u,e,?_⟩;have D5:=(D4.ext (af.push m4 _)).to Q8 f5 r5;exact D5.set hS h0 ab hk (d:=⟨t,u,[]⟩) ⟨.nil,rfl,QS⟩
 ·refine(zl D3.r ab [-1,0,4,5] rfl rfl az).mono λ_ m4⟨t,e,_,r4,f4⟩=>⟨t,e,?_⟩;have D4:=(D3.ext (af.push m3 _)).to Q8 f4 r4;have a1:=D4.lit hS [t] (cs:=[.i t]) (n:=1) rfl rfl az;refine BH _ λm5 x5=>?_;have D5:=(D4.ext (af.push m4 _)).ext x5;have a2:=D5.lit hS [0,0,0,0] (cs:=[.i 0,.i 0,.i 0,.i 0]) (n:=4) rfl rfl az;refine BH _ λm6 x6=>?_;have D6:=(D5.ext (af.push m5 _)).ext x6;have a3:=D6.lit hS [] (cs:=[]) (n:=0) rfl rfl az;refine BH _ λm7 x7=>?_;have D7:=(D6.ext (af.push m6 _)).ext x7;have X6:=(af.push m6 (.cells (aU []) au)).trans x7;have X5:=((af.push m5 (.cells (aU [.i 0,.i 0,.i 0,.i 0]) au)).trans x6);have c:=vH (D7.dX hS) 146 [([t],.mk m4.size 0 1 1),([0,0,0,0],.mk m5.size 0 4 4),([],.mk m6.size 0 0 0)] az (by
   simp only[aF0,aGY,aHP,forall_eq_or_imp,forall_eq];exact⟨a1.le (le ((x5.trans X5).trans X6)),a2.le (le (x6.trans X6)),a3.le (le x7)⟩) (cs:=[.s (.mk m4.size 0 1 1),.s (.mk m5.size 0 4 4),.s (.mk m6.size 0 0 0)]) (n:=3) rfl rfl
  exact(D7.ext (af.push m7 _)).set hS h0 ab hk (d:=⟨0,0,_⟩) ⟨_,rfl,c⟩
 ·have a1:=D3.lit hS [bS (k+1)] (cs:=[.i (bS (k+1))]) (n:=1) rfl rfl az;refine BH _ λm5 x5=>?_;have D5:=(D3.ext (af.push m3 _)).ext x5;have c:=vH (D5.dX hS) 146 [([bS (k+1)],.mk m3.size 0 1 1)] az (by
   simp only[aF0,aGY,aHP,forall_eq];exact a1.le (le x5)) (cs:=[.s (.mk m3.size 0 1 1)]) (n:=1) rfl rfl
  exact(D5.ext (af.push m5 _)).set hS h0 ab hk (d:=⟨0,0,_⟩) ⟨_,rfl,c⟩
 ·refine(zl D3.r ab [0,2,1] rfl rfl az).mono λ_ m4⟨t,e,_,r4,f4⟩=>⟨t,e,?_⟩;have D4:=(D3.ext (af.push m3 _)).to Q8 f4 r4;exact D4.dY hS h0 ab [(⟨2,t,[]⟩,[.i 2,.i t,.s .nil])] (by simp;exact⟨.nil,rfl,QS⟩) rfl rfl az
 ·refine(bo D3.r.r ab 2).mono λ_ m4⟨t,e,_,_,d4,f4⟩=>⟨t,e,?_⟩;have D4:=D3.to Q8 f4 (D3.r.to f4 d4);have a1:=D4.lit hS [] (cs:=[]) (n:=0) rfl rfl az;refine BH _ λm5 x5=>?_;have D5:=(D4.ext (af.push m4 _)).ext x5;have a2:=D5.lit hS [2] (cs:=[.i 2]) (n:=1) rfl rfl az;refine BH _ λm6 x6=>?_;have D6:=(D5.ext (af.push m5 _)).ext x6;have a3:=D6.lit hS [] (cs:=[]) (n:=0) rfl rfl az;refine BH _ λm7 x7=>?_;have D7:=(D6.ext (af.push m6 _)).ext x7;have a4:=D7.lit hS [] (cs:=[]) (n:=0) rfl rfl az;refine BH _ λm8 x8=>?_;have D8:=(D7.ext (af.push m7 _)).ext x8;have X7:=(af.push m7 (.cells (aU []) au)).trans x8;have X6:=(af.push m6 (.cells (aU []) au)).trans x7;have X5:=((af.push m5 (.cells (aU [.i 2]) au)).trans x6);have c:=vH (D8.dX hS) 146 [([],.mk m4.size 0 0 0),([2],.mk m5.size 0 1 1),([],.mk m6.size 0 0 0),([],.mk m7.size 0 0 0)] az (by
   simp only[aF0,aGY,aHP,forall_eq_or_imp,forall_eq];exact⟨a1.le (le (((x5.trans X5).trans X6).trans X7)),a2.le (le ((x6.trans X6).trans X7)),a3.le (le (x7.trans X7)),a4.le (le x8)⟩) (cs:=[.s (.mk m4.size 0 0 0),.s (.mk m5.size 0 1 1),.s (.mk m6.size 0 0 0),.s (.mk m7.size 0 0 0)]) (n:=4) rfl rfl
  have D9:=D8.ext (af.push m8 (.cells (aU [.s (.mk m4.size 0 0 0),.s (.mk m5.size 0 1 1),.s (.mk m6.size 0 0 0),.s (.mk m7.size 0 0 0)]) 146));refine(bo D9.r.r ab 3).mono λ_ cK⟨j,e,j0,j1,d10,f10⟩=>⟨j,e,j0,bg,az,?_⟩;have D10:=D9.to Q8 f10 (D9.r.to f10 d10);have c':=(cY.le c (f10.bO (S:=s.ao::S) (by simp[dx])) λcs x=>ka.le (f10.bO (by simp[dx])) cs x).J6 (i:=j.toNat) (j:=4) ab az;exact D10.set hS h0 ab hk (d:=⟨t,0,_⟩) ⟨_,rfl,c'⟩
 ·exact D3.dY hS h0 ab [(⟨0,0,[]⟩,[.i 0,.i 0,.s .nil]),(⟨3,0,[]⟩,[.i 3,.i 0,.s .nil])] (by simp;exact⟨⟨.nil,rfl,QS⟩,⟨.nil,rfl,QS⟩⟩) rfl rfl az
end
end
section
def Tr{α:Type}(_:α):Prop:=True
section
variable{S:List Nat}{m:ah}{rb P:Nat}{bs:Sl}
theorem sS(hS:∀c∈S,c<m.size)(dx:rb∈S)(h0:Rd rb bs P m)(hP:P+200<=10000000000000000){d p:Sl}{x:List aS×List bY}(t:IT (aY S m) d p x)(u:UI x)(T0:Int):aD Tryz.prog 36 [vp rb 0,.agg #[Sl.v d,Sl.v p],vi T0] m (PP IT Tr S rb bs m (P+10)):=by
 apply wD (rb,0);simp(config:={maxSteps:=1000000}) -zeta only[aw,ax];have hr:=h0.lt;intro m1 m2;have b2:BS [m1.size,m.size] rb bs m P m2:=BS.psh (BS.jm (S:=S) h0 _).1 _;have x2:af m m2:=(af.push m _).trans (af.push m1 _);have s1:m1.size=m.size+1:=by simp[m1]
 have t2:IT (aY ([m1.size,m.size]++S) m2) d p x:=IT.mn _ _ _ _ _ (x2.aY λb hb=>by
  simp at hb;rcases hb with e|e|e
  ·exact Or.inr ab
  ·exact Or.inr ab
  ·exact Or.inl e) t
 clear_value m2;refine b2.pick hr ab (λ_ h=>h) T0 λi m3 _ _ b3 f3=>?_;have t3:=IT.mn _ _ _ _ _ (BS.le (B:=[m1.size,m.size]) dx f3) t2;refine⟨λ_=>b3.fG IT.mn h0 az t3 trivial ab _,λ_=>?_⟩;refine(uz (b3.hS hS) (t3.1.le (aV _ _)) (rq u.2) (eV.le (aV _ _) t3.2) u.1).mono λ_ m4⟨dd,q,l,e,A4,hl,x4⟩=>⟨(b3.lw hr λ_ h=>h).cg (x4.fz _),dd,q,e,?_⟩;have b4:=b3.to (x4.fz _) (b3.s.r.ext x4);intro m5 m6;obtain⟨b6,-,-⟩:=b4.box (S:=S) (m1:=m5) (m2:=m6) rfl rfl rfl;obtain⟨x6,-,-⟩:=iA (M:=m4) (m1:=m5) (m2:=m6) rfl rfl rfl;clear_value m6;have A6:uy ([m4.size,m1.size,m.size]++S) m m6 dd q x.1 l:=A4.re (x6.fz []) az (λb hb=>⟨by
  rcases List.mem_cons.1 hb with e|e
  ·exact Or.inr ab
  ·exact Or.inl e,b6.hS hS b hb⟩) b3.s.f.size
 have ok:Dc (l.map (·.1)):=hl▸u.1;have hlen:=A6.len;have l4:l.length<=4:=by simpa using ok.lZ
 have l0:0<l.length:=by simpa using ok.eZ
 have cl:∀y∈l,y.1.bP.length<=1000000000000:=λy hy=>(uy.lZ ok hy).lZ;refine b6.pick hr ab (λ_ h=>h) (q.len:Int) λf m7 f0 f1 b7 f7=>?_;have A7:=A6.re f7 (S':=[m4.size,m1.size,m.size]++S) (by simp[dx]) (λb hb=>⟨Or.inl hb,b7.hS hS b hb⟩) (aFR _);obtain⟨y,hy⟩:=ae (l:=l) (k:=f.toNat) ab;obtain⟨a,b,g0,g1,g2,g3,g4,ha7,ZZ⟩:=A7.iu ab hy;refine⟨f0,ab,a,g0,b,g1,_,g2,_,g3,y.2,g4,?_⟩;intro m8 m9;obtain⟨b9,-,-⟩:=b7.box (S:=S) (m1:=m8) (m2:=m9) rfl rfl rfl;obtain⟨x9,-,-⟩:=iA (M:=m7) (m1:=m8) (m2:=m9) rfl rfl rfl;clear_value m9;have A9:uy ([m7.size,m4.size,m1.size,m.size]++S) m m9 dd q x.1 l:=A7.re (x9.fz []) az (λb hb=>⟨by
  rcases List.mem_cons.1 hb with e|e
  ·exact Or.inr ab
  ·exact Or.inl e,b9.hS hS b hb⟩) (aFR _)
 have fG:∀{M:ah}{s:Sl}{z:List aS×List bY}{Q:Nat},BS [m7.size,m4.size,m1.size,m.size] rb bs m Q M->IT (aY ([m7.size,m4.size,m1.size,m.size]++S) M) s q z->Q<=P+10->PP IT Tr S rb bs m (P+10) (.agg #[Sl.v s,Sl.v q]) (ag M m1.size 0 [.s s,.s q]):=λb t h=>b.fG IT.mn h0 az t trivial h _;refine⟨λ_=>fG b9 (A9.it ab cl) ab,λhn=>?_⟩;have hB:∀b∈[rb],b∈[m7.size,m4.size,m1.size,m.size]++S:=by simp[dx]
 have to:∀{M M':ah}{l:List (bY×Sl)},uy ([m7.size,m4.size,m1.size,m.size]++S) m M dd q x.1 l->Fz [rb] M M'->uy ([m7.size,m4.size,m1.size,m.size]++S) m M' dd q x.1 l:=λh f=>h.re f hB (λb hb=>⟨Or.inl hb,aFY (h.lt b hb) f.size⟩) (aFR _);refine b9.pick hr ab (λ_ h=>h) 8 λi dm _ _ wi f11=>?_;have A11:=to A9 f11;have amf:Le (aY (q.ao::([m4.size,m1.size,m.size]++S)) m7) (aY (q.ao::([m7.size,m4.size,m1.size,m.size]++S)) dm):=(x9.aY λb hb=>by
  simp only[aGg,aGp,aF0]at hb⊢;rcases hb with e|e|e
  ·exact Or.inl (Or.inl e)
  ·exact Or.inr ab
  ·exact Or.inl (Or.inr e)).trans (f11.bO (by simp[dx]))
 have ha:=ha7.le amf;have hb:=ZZ.le amf;have leF:∀{M M':ah},Fz [rb] M M'->Le (aY (q.ao::([m7.size,m4.size,m1.size,m.size]++S)) M) (aY (q.ao::([m7.size,m4.size,m1.size,m.size]++S)) M'):=λf=>f.bO (by simp[dx]);have py:=uy.lZ ok (ak hy);have done:∀{M:ah}{Q:Nat}{cs:List Ce}{p':bY},BS [m7.size,m4.size,m1.size,m.size] rb bs m Q M->uy ([m7.size,m4.size,m1.size,m.size]++S) m M dd q x.1 l->jc (aY (q.ao::([m7.size,m4.size,m1.size,m.size]++S)) M) cs p'->Q<=P+10->
  0<=f/\f<(q.len:Int)/\dW M q.ao (q.off+f.toNat*5) 5/\(da [m7.size,m4.size,m1.size,m.size] M (ag M q.ao (q.off+f.toNat*5) cs)/\PP IT Tr S rb bs m (P+10) (.agg #[Sl.v dd,Sl.v q]) (ag (ag M q.ao (q.off+f.toNat*5) cs) m1.size 0 [.s dd,.s q])):=λ{M Q cs p'} b A hp hQ=>by
  obtain⟨w,ps,tt⟩:=A.ape b.s.f ab cl (k:=f.toNat) ab hp
  have yq:=A.g.aN
  exact⟨f0,ab,w,λc hc=>aP _ _ _ _ λe=>A.nq (by rw[<-e];exact aF7 _ hc),fG ⟨b.s.put h0 yq.1 _ _,λc hc=>by rw[aq];exact b.dX c hc⟩ tt hQ⟩
 have G7:∀{M M':ah}{Q:Nat},BS [m7.size,m4.size,m1.size,m.size] rb bs m Q M->Fz [rb] M M'->∀o,ad M' m7.size o=ad M m7.size o:=λb f o=>kg f hr (b.dX _ az) o;have G4:∀{M M':ah}{Q:Nat},BS [m7.size,m4.size,m1.size,m.size] rb bs m Q M->Fz [rb] M M'->∀o,ad M' m4.size o=ad M m4.size o:=λb f o=>kg f hr (b.dX _ az) o;have c11:=A11.bP (ak hy) py.lZ;have amg:=wi.hS hS;have lq:∀c∈q.ao::([m7.size,m4.size,m1.size,m.size]++S),c<dm.size:=λc hc=>(List.mem_cons.1 hc).elim (λe=>e▸A11.g.aN.2) (amg c);have jm:∀(ls:List Int){cs:List Ce}{n:Nat},cs=ls.map Ce.i->n=ls.length->0<ls.length/\ls.length<=100->∀{K:Int->ah->Prop},(∀t M',BS [m7.size,m4.size,m1.size,m.size] rb bs m (P+4) M'->uy ([m7.size,m4.size,m1.size,m.size]++S) m M' dd q x.1 l->Le (aY (q.ao::([m7.size,m4.size,m1.size,m.size]++S)) dm) (aY (q.ao::([m7.size,m4.size,m1.size,m.size]++S)) M')->(∀o,ad M' m7.size o=ad (dm.push (.cells (aU cs) au)) m7.size o)->(∀o,ad M' m4.size o=ad (dm.push (.cells (aU cs) au)) m4.size o)->K t M')->
  aD Tryz.prog 40 [vp rb 0,Sl.v (.mk dm.size 0 n n)] (dm.push (.cells (aU cs) au)) λv M'=>da [m7.size,m4.size,m1.size,m.size] (dm.push (.cells (aU cs) au)) M'/\∃t:Int,v=vi t/\K t M':=λls{cs n} h1 h2 h3{K} hk=>by
  have x:=af.push dm (.cells (aU cs) au)
  have Pp:=wi.to (x.fz _) (wi.s.r.ext x)
  exact(zl wi.s ab ls h1 h2 h3).mono λ_ M'⟨t,e,_,r,f⟩=>⟨(Pp.lw hr λ_ h=>h).cg f,t,e,hk t M' (Pp.to f r.r) (to A11 ((x.fz _).trans f)) (leF ((x.fz _).trans f)) (G7 Pp f) (G4 Pp f)⟩
 refine⟨λ_=>?_,λ_=>⟨λ_=>?_,λ_=>⟨λ_=>?_,λ_=>⟨λ_=>?_,λ_=>?_⟩⟩⟩⟩
 ·refine(ou wi.s.r ab (hb.le (aV _ _)) (by have:=py.bX;omega)).mono λ_ df⟨s,l',e,g,BP,_,O8,f12⟩=>⟨(wi.lw hr λ_ h=>h).cg f12,s,e,G7 wi f12 _,G7 wi f12 _,G7 wi f12 _,G7 wi f12 _,G4 wi f12 _,?_⟩;exact done (p':=⟨y.1.params,l',y.1.aH,y.1.an,y.1.bP⟩) (wi.to f12 O8) (to A11 f12) ⟨a,s,y.2,rfl,ha.le (leF f12),GI.done (GI.any g) lq (by have:=py.bX;show l'.length<=_;omega),(to A11 f12).bP (ak hy) py.lZ⟩ ab
 ·have x:=(af.push dm (.cells (aU [.i 0,.i 1,.i (bS (y.1.an+1)),.i 2001,.i (-1)]) au)).fz [rb];exact⟨G7 wi x _,G7 wi x _,G7 wi x _,G7 wi x _,G4 wi x _,jm [0,1,bS (y.1.an+1),2001,-1] rfl rfl az λt M' b' A le e7 e4=>⟨e7 _,e7 _,e7 _,e7 _,e4 _,done (p':=⟨y.1.params,y.1.bX,y.1.aH,t,y.1.bP⟩) b' A ⟨a,b,y.2,rfl,ha.le le,hb.le le,A.bP (ak hy) py.lZ⟩ ab⟩⟩
 ·have x:=(af.push dm (.cells (aU [.i 0,.i 1,.i 9]) au)).fz [rb];have cl:=c11.len;have cc:=c11.cap;have c0:=py.eZ;have cf:=py.lZ;have ew:bS ((y.2.len:Int) -1)=((y.2.len -1:Nat):Int):=by rw[aF ab ab];omega
  rw[ew];refine⟨aGw 0,ab,ab,G7 wi x _,G7 wi x _,G7 wi x _,G7 wi x _,G7 wi x _,G4 wi x _,jm [0,1,9] rfl rfl az λt M' b' A le e7 e4=>⟨e7 _,e7 _,e7 _,e7 _,e7 _,e4 _,done (p':=⟨y.1.params,y.1.bX,t,y.1.an,y.1.bP.take (y.2.len -1)⟩) b' A ⟨a,b,y.2.cut 0 (y.2.len -1) 6,rfl,ha.le le,hb.le le,cY.aaj (A.bP (ak hy) py.lZ) ab⟩ ab⟩⟩
 ·refine(I9 amg (by simp[dx]) wi.s.r ab).mono λ_ df⟨s,ds,e,hd,O8,f12⟩=>⟨(wi.lw hr λ_ h=>h).cg f12,s,e,G4 wi f12 _,?_⟩;exact fG (z:=(ds,_)) (wi.to f12 O8) ⟨hd,((to A11 f12).it ab cl).2⟩ ab
 ·have pt:=c11.len;have LN:=py.eZ;refine wi.pick hr ab (λ_ h=>h) (y.2.len:Int) λj df j0 j1 Pp f12=>?_;have VD:=to A11 f12;obtain⟨-,-,-,-,-,-,g12,-,-⟩:=VD.iu ab hy;have c12:=VD.bP (ak hy) py.lZ;obtain⟨z,hz⟩:=ae (l:=y.1.bP) (k:=j.toNat) ab;obtain⟨a',jj,FH,hj,e0,e1,e2,e3,e4,e5⟩:=c12.aE hz;have dX:∀{b o:Nat}{v:Value},ad (aY (q.ao::([m7.size,m4.size,m1.size,m.size]++S)) df) b o=some v->ad df b o=some v:=λh=>(cT.1 h).2;refine⟨f0,ab,y.2,g12,j0,ab,_,dX e0,_,dX e1,_,dX e2,_,dX e3,_,dX e4,_,dX e5,?_⟩;have hZ:∀c∈q.ao::(Ks l++([m7.size,m4.size,m1.size,m.size]++S)),c<df.size:=λc hc=>by
   rcases List.mem_cons.1 hc with e|e
   ·rw[e];exact VD.g.aN.2
   ·rcases List.mem_append.1 e with e|e
    ·obtain⟨w,hw,rfl⟩:=List.mem_map.1 e;exact(VD.c w hw).aN.2
    ·exact VD.lt c e
  refine(EN hZ Pp.s.r ab (FH.le (aV _ _)) (hj.le (aV _ _)) (py.fY z (ak hz))).mono λ_ iC⟨z',a2,j2,e,Ra,hj2,_,Ik,f13⟩=>⟨(Pp.lw hr λ_ h=>h).cg f13,_,_,_,_,_,_,e,?_⟩;have A13:=to VD f13;have b13:=Pp.to f13 Ik;obtain⟨w,A14⟩:=A13.wr b13.s.f hy (ap hz) (cs:=[.i z'.op,.i z'.dst,.i z'.bh,.i z'.bA,.s a2,.s j2]) (y:=z') ⟨a2,j2,rfl,Ra,hj2⟩;have yc:=(A13.c y (ak hy)).aN;have ny:=A13.nc y (ak hy);have yq:=VD.g.aN;refine⟨kg f13 hr yq _,G4 Pp f13 _,j0,ab,w,λb hb=>aP _ _ _ _ λe=>ny (by rw[<-e];exact aF7 _ hb),fG ⟨b13.s.put h0 yc.1 _ _,λc hc=>by rw[aq];exact b13.dX c hc⟩ (A14.it bg λw hw=>?_) ab⟩;rcases aGd hw with e|e
  ·exact cl w e
  ·rw[e];simpa using py.lZ
theorem Ja(hS:∀c∈S,c<m.size)(dx:rb∈S)(h0:Rd rb bs P m)(hP:P+2000+4*(300+40*Cg 18)<=10000000000000000):aD Tryz.prog 15 [vp rb 0] m (PP IT Tr S rb bs m (P+50+4*(300+40*Cg 18))):=by
 apply Ae (rb,0);simp -zeta only[aw,ax];have hr:=h0.lt;intro m1;have z1:m1.size=m.size+1:=by simp[m1]
 obtain⟨b1,-⟩:BS [m.size] rb bs m P m1/\True:=⟨(BS.jm (S:=S) h0 _).1,trivial⟩;clear_value m1;refine b1.call (S:=S) hr (λ_ h=>h) (He (b1.hS hS) (by simp[dx]) b1.s.r ab) λd2 r2 x2 m2 u2 t2 b2 f2=>?_;intro m3 m4;obtain⟨b4,l4,-⟩:=b2.box (S:=S) (m1:=m3) (m2:=m4) rfl rfl rfl;clear_value m4;have t4:=IT.mn _ _ _ _ _ l4 t2;have hB:rb∈[m2.size,m.size]++S:=by simp[dx]
 refine b4.pick hr ab (λ_ h=>h) 4 λi m5 _ _ b5 f5=>?_;have t5:=IT.mn _ _ _ _ _ (BS.le dx f5) t4;refine⟨λ_=>?_,λ_=>?_⟩
 ·refine b5.call (S:=S) hr (λ_ h=>h) (Hg (b5.hS hS) hB b5.s.r ab t5 u2) λd6 r6 x6 m6 u6 t6 b6 f6=>?_;intro m7;obtain⟨b7,l7⟩:=b6.put (S:=S) h0 (by simp:m2.size∈_) [.s d6,.s r6];exact b7.call (S:=S) hr (λ_ h=>h) (sS (b7.hS hS) hB b7.s.r ab (IT.mn _ _ _ _ _ l7 t6) u6 14) λd8 r8 x8 m8 u8 t8 b8 f8=>b8.fG IT.mn h0 az t8 trivial ab _
 ·exact b5.call (S:=S) hr (λ_ h=>h) (sS (b5.hS hS) hB b5.s.r ab t5 u2 14) λd8 r8 x8 m8 u8 t8 b8 f8=>b8.fG IT.mn h0 az t8 trivial ab _
end
end
def qA(n:Nat)(f:Nat->Int):List Int:=(List.range n).map f
theorem lL(n:Nat)(f:Nat->Int):(qA n f).length=n:=by simp[qA]
theorem sT{n:Nat}{f:Nat->Int}{a:Nat}(h:a<n):(qA n f)[a]? =some (f a):=by
 unfold qA;rw[aGb,aHL h];rfl
theorem dy{n:Nat}{f g:Nat->Int}(h:∀b,b<n->f b=g b):qA n f=qA n g:=by
 unfold qA;exact List.map_congr_left λb hb=>h b (List.mem_range.1 hb)
theorem TL{n:Nat}{f:Nat->Int}{a:Nat}(v:Int):(qA n f).set a v=qA n (λb=>if b=a then v else f b):=by
 apply aGC;intro i;by_cases hi:i<n
 ·rw[sT hi];by_cases e:a=i
  ·subst e;rw[aGl (by rw[lL];exact hi),aFW rfl]
  ·rw[aGn e,sT hi,aFS (λh=>e h.symm)]
 ·rw[aGc (by rw[aGO,lL];omega),aGc (by rw[lL];omega)]
theorem UW(n:Nat):qA n (λ_=>0)=eF n:=by
 unfold qA eF;rw[List.map_const'];simp
structure OB(h:List aR):Prop where
 fE:lK h
 cells:∀c∈h,mj h c
 cL:∀(a:Nat)(c:aR),h[a]? =some c->0<c.aG->cL h a<=c.aG
 Ml:WN h
structure Hh(h:List aR)(f:aM):Prop where
 cq:∀(k:Nat)(w o:Int),f.an[k]? =some w->f.aL[k]? =some o->(eT w\/1000<=w)/\(0<=o/\o<=999999)/\(0<o->gJ h w)
structure KP(im:bq)(h:List aR)(prev:Option aM)(f:aM):Prop where
 dJ:0<=f.dJ/\f.dJ<im.bJ.length
 pc:0<=f.pc/\f.pc<(cP im f.dJ).bP.length
 lr:(f.an.length:Int)=(cP im f.dJ).an
 lo:(f.aL.length:Int)=(cP im f.dJ).an
 lh:(f.aQ.length:Int)=(cP im f.dJ).an
 an:Hh h f
 first:prev=none->f.dst=0
 next:∀p,prev=some p->0<=f.dst/\f.dst<p.aL.length/\aE p.aL f.dst=0
def lg(fs:List aM):Nat->Option aM
 |0=>none
 |k+1=>fs[k]?
structure OC(h:List aR)(fs:List aM):Prop where
 cp:∀f∈fs,∀w∈f.aQ,w=0\/(1000<=w/\ix w<h.length)
 ic:∀(i:Nat)(c:aR),h[i]? =some c->c.aG<0->holds fs i=1
 jN:∀(i:Nat)(c:aR),h[i]? =some c->0<=c.aG->holds fs i=0
structure Nn(im:bq)(s:St):Prop where
 eG:kN im
 bT:0<=s.bT/\s.bT<=3
 done:s.bT=0<->s.ai=[]
 value:eT s.value
 pI:s.value≠0->s.bT=0
 cV:0<=s.cV/\s.cV<=40
 be:0<=s.be/\s.be<=s.cV
 jT:(s.ai.length:Int)<=s.be+1
 aT:∀n∈s.aT,eT n
 heap:OB s.heap
 ai:∀(k:Nat)(f:aM),s.ai[k]? =some f->KP im s.heap (lg s.ai k) f
 aQ:OC s.heap s.ai
 Sa:∀(a:Nat)(c:aR),s.heap[a]? =some c->0<c.aG->c.aG=cL s.heap a+dz s.ai a
theorem Qh:∀{fs:List aM}{a:Nat},0<dz fs a->∃f∈fs,0<bQ f.an f.aL a
 |[],a,h=>by simp[dz]at h
 |f::fs,a,h=>by
  simp only[dz]at h;by_cases hf:0<bQ f.an f.aL a
  ·exact⟨f,az,hf⟩
  ·obtain⟨g,hg,hp⟩:=Qh (fs:=fs) (a:=a) ab;exact⟨g,by simp[hg],hp⟩
theorem No:∀{an aL:List Int}{a:Nat},0<bQ an aL a->∃(k:Nat)(o:Int),an[k]? =some (1000+(a:Int))/\aL[k]? =some o/\0<o
 |[],aL,a,h=>by simp[bQ]at h
 |_::_,[],a,h=>by simp[bQ]at h
 |r::rs,o::os,a,h=>by
  simp only[bQ]at h;by_cases hr:r=1000+(a:Int)/\0<o
  ·exact⟨0,o,by simp[hr.1],rfl,hr.2⟩
  ·have:0<bQ rs os a:=by
    split at h
    ·rename_i e;have:¬0<o:=λho=>hr ⟨e,ho⟩;omega
    ·omega
   obtain⟨k,o',h1,h2,h3⟩:=No this;exact⟨k+1,o',by simpa using h1,by simpa using h2,h3⟩
theorem aav{fs:List aM}{f:aM}{a:Nat}(hf:f∈fs)(hn:∀g∈fs,0<=bQ g.an g.aL a):bQ f.an f.aL a<=dz fs a:=by
 induction fs with
 |nil=>simp at hf
 |cons g fs ih=>
  have MO:0<=dz fs a:=by
   clear ih hf;induction fs with
   |nil=>simp[dz]
   |cons q fs ih2=>
    have h1:=hn q az;have h2:=ih2 (λx hx=>hn x (by simp at hx⊢;rcases hx with h|h;exact Or.inl h;exact Or.inr (Or.inr h)));simp only[dz];omega
  simp only[dz];rcases List.mem_cons.1 hf with rfl|hf
  ·omega
  ·have:=ih hf λx hx=>hn x (by simp[hx]);have:=hn g az;omega
theorem Xi{fs:List aM}{a:Nat}(hn:∀g∈fs,0<=bQ g.an g.aL a):0<=dz fs a:=by
 induction fs with
 |nil=>simp[dz]
 |cons q fs ih=>
  have h1:=hn q az;have h2:=ih λx hx=>hn x (by simp[hx]);simp only[dz];omega
theorem Qi{fs:List aM}{f:aM}{a:Nat}(hf:f∈fs):cX f.aQ a<=holds fs a:=by
 induction fs with
 |nil=>simp at hf
 |cons g fs ih=>
  simp only[holds];rcases List.mem_cons.1 hf with rfl|hf
  ·have:=uj fs a;omega
  ·have:=ih hf;have:=fp g.aQ a;omega
theorem KQ{fs:List aM}{a:Nat}(h:∀f∈fs,∀w∈f.aQ,w≠1000+(a:Int)):holds fs a=0:=by
 induction fs with
 |nil=>rfl
 |cons g fs ih=>
  simp only[holds];rw[ih λf hf=>h f (by simp[hf]),lD λhm=>h g az _ hm rfl];rfl
theorem uA{fs:List aM}{f:aM}(h:f∈fs):∃k:Nat,fs[k]? =some f:=List.mem_iff_getElem?.1 h
theorem KR{im:bq}{s:St}(h:Nn im s):bR im s:=by
 have hF:∀f∈s.ai,∃p,KP im s.heap p f:=λf hf=>let⟨k,hk⟩:=uA hf;⟨_,h.ai k f hk⟩;have MO:∀a,∀g∈s.ai,0<=bQ g.an g.aL a:=λa g hg=>by
  obtain⟨p,hp⟩:=hF g hg;refine qY (λo ho=>?_) a;obtain⟨k,hk⟩:=List.mem_iff_getElem?.1 ho;have cA:=ap hk;have h1:=hp.lr;have h2:=hp.lo;obtain⟨w,hw⟩:=ae (l:=g.an) (k:=k) ab;exact(hp.an.cq k w o hw hk).2.1.1
 refine⟨h.eG,h.bT,h.done,h.value,h.pI,h.cV,h.be,h.jT,h.aT,⟨h.heap.cells,h.heap.Ml,h.Sa,λa=>Xi (MO a),λa ha=>?_⟩,h.heap.fE,λf hf=>?_,λf hf=>(h.ai 0 f hf).first rfl,λk f g hf hg=>(h.ai (k+1) g hg).next f hf,λa⟨c,hc,hn⟩=>h.aQ.ic a c hc hn,λa hk=>?_⟩
 ·obtain⟨f,hf,hp⟩:=Qh ha;obtain⟨k,o,h1,h2,h3⟩:=No hp;obtain⟨p,hp⟩:=hF f hf;have:=((hp.an.cq k _ o h1 h2).2.2 h3).2;rwa[jg]at this
 ·obtain⟨p,hp⟩:=hF f hf;refine⟨hp.dJ,hp.pc,hp.lr,hp.lo,hp.lh,λw hw=>?_,λk o w ho hw=>?_,λw hw=>?_⟩
  ·obtain⟨k,hk⟩:=List.mem_iff_getElem?.1 hw;have cA:=ap hk;have h1:=hp.lr;have h2:=hp.lo;obtain⟨o,ho⟩:=ae (l:=f.aL) (k:=k) ab;exact(hp.an.cq k w o hk ho).1
  ·have:=hp.an.cq k w o hw ho;exact⟨this.2.1.1,λqB=>(this.2.2 qB).1⟩
  ·rcases h.aQ.cp f hf w hw with h1|h1
   ·exact Or.inl h1
   ·exact Or.inr h1.1
 ·rcases aF1 a s.heap.length with cA|FG
  ·obtain⟨c,hc⟩:=ae cA;refine h.aQ.jN a c hc (Int.not_lt.1 λhn=>hk ⟨c,hc,hn⟩)
  ·refine KQ λf hf w hw e=>?_;rcases h.aQ.cp f hf w hw with h1|h1
   ·omega
   ·have:=h1.2;rw[e,jg]at this;omega
theorem OD{im:bq}{s:St}(h:bR im s):Nn im s:=by
 have MO:∀a,∀g∈s.ai,0<=bQ g.an g.aL a:=λa g hg=>qY (h.ai g hg).PZ a;have aaL:∀f∈s.ai,∀(k:Nat)(w o:Int),f.an[k]? =some w->f.aL[k]? =some o->0<o->gJ s.heap w/\o<=999999:=λf hf k w o hw ho qB=>by
  have h1:=((h.ai f hf).aL k o w ho hw).2 qB;have e:=fD h1;have h2:=Kg (h.ai f hf).PZ hw ho (a:=ix w) e.symm;have h3:=aav hf (MO (ix w));have h4:=h.heap.lv (ix w) ab;obtain⟨c,hc,hp⟩:=h4;have h5:=h.heap.ex _ c hc hp;have h6:=oH s.heap (ix w);have h7:=(h.heap.cell c (ak hc)).hi;exact⟨⟨h1,c,hc,hp⟩,ab⟩
 refine⟨h.eG,h.bT,h.done,h.value,h.pI,h.cV,h.be,h.jT,h.aT,⟨h.fE,h.heap.cell,λa c hc hp=>?_,h.heap.Ml⟩,λk f hf=>?_,⟨λf hf w hw=>?_,λi c hc hn=>h.ic i ⟨c,hc,hn⟩,λi c hc hn=>h.jN i λ⟨c',uI,hn'⟩=>?_⟩,h.heap.ex⟩
 ·have:=h.heap.ex a c hc hp;have:=h.heap.nn a;omega
 ·have hm:=ak hf;have F:=h.ai f hm;refine⟨F.dJ,F.pc,F.lr,F.lo,F.lh,⟨λj w o hw ho=>⟨F.Rz w (ak hw),⟨(F.aL j o w ho hw).1,?_⟩,λhp=>(aaL f hm j w o hw ho hp).1⟩⟩,λhp=>?_,λp hp=>?_⟩
  ·rcases aHQ 0 o with qB|qB
   ·exact(aaL f hm j w o hw ho qB).2
   ·omega
  ·cases k with
   |zero=>exact h.first f hf
   |succ k=>
    simp only[lg]at hp;have:=ap hf;rw[List.getElem?_eq_none_iff]at hp;omega
  ·cases k with
   |zero=>simp[lg]at hp
   |succ k=>exact h.chain k p f hp hf
 ·rcases(h.ai f hf).aQ w hw with h1|h1
  ·exact Or.inl h1
  ·refine Or.inr ⟨h1,Nat.lt_of_not_le λFG=>?_⟩;have h2:=h.jN (ix w) λ⟨c,hc,_⟩=>by have:=ap hc;omega
   have h3:=Qi hf (a:=ix w);have h4:=sL (l:=f.aQ) (a:=ix w) (by rw[fD h1];exact hw);omega
 ·rw[hc]at uI;simp at uI;subst uI;omega
section
theorem My(l r:List Ce)(o:Nat)(c:Ce)(h:l.length<=o):(l++r).set o c=l++r.set (o -l.length) c:=by
 rw[aH8 _ _ h]
theorem kE:∀(new l r:List Ce)(o:Nat),l.length<=o->fP (l++r) o new=l++fP r (o -l.length) new
 |[],l,r,o,_=>rfl
 |c::new,l,r,o,h=>by
  simp only[fP];rw[My _ _ _ _ h,kE new l _ (o+1) ab];congr 2;omega
theorem BK:∀(new l r:List Ce)(o:Nat),o+new.length<=l.length->fP (l++r) o new=fP l o new++r
 |[],l,r,o,_=>rfl
 |c::new,l,r,o,h=>by
  simp only[aF5]at h;simp only[fP];rw[aIa _ _ ab,BK new _ _ (o+1) bg]
theorem Np{sz:Nat}:∀(css:List (List Ce))(a:Nat)(cs:List Ce)(o:Nat)(new:List Ce),(∀c∈css,c.length=sz)->css[a]? =some cs->o+new.length<=sz->fP css.flatten (a*sz+o) new=(css.set a (fP cs o new)).flatten
 |[],a,cs,o,new,_,h,_=>by simp at h
 |x::css,0,cs,o,new,hl,h,ho=>by
  simp at h;subst h;have hx:=hl x aF3;rw[aGS,aH3,aGa,BK _ _ _ _ ab,aGK,aGS]
 |x::css,a+1,cs,o,new,hl,h,ho=>by
  have hx:=hl x aF3;rw[aGS,kE _ _ _ _ (by rw[hx,aGE];omega),aGL,aGS];have e:(a+1)*sz+o -x.length=a*sz+o:=by rw[hx,aGE];omega
  rw[e,Np css a cs o new (λc hc=>hl c (aFT _ hc)) (by simpa using h) ho]
theorem _root_.Go.Vc.eQ.set{α:Type}{sz:Nat}{R:List Ce->α->Prop}{css:List (List Ce)}{l:List α}(h:eQ sz R css l)(a:Nat){cs:List Ce}{x:α}(hs:cs.length=sz)(hx:R cs x):eQ sz R (css.set a cs) (l.set a x):=by
 refine⟨by simp[h.len],λc hc=>?_,λj c y hc hy=>?_⟩
 ·rcases aGd hc with hc|hc
  ·exact h.size c hc
  ·rw[hc];exact hs
 ·by_cases hj:j=a
  ·subst hj;have h1:=ap hc;have h2:=ap hy;simp at h1 h2;rw[aGl h1]at hc;rw[aGl h2]at hy;simp at hc hy;subst hc;subst hy;exact hx
  ·rw[aGn (λe=>hj e.symm)]at hc hy;exact h.cq j c y hc hy
theorem _root_.Go.Vc.eQ.take{α:Type}{sz:Nat}{R:List Ce->α->Prop}{css:List (List Ce)}{l:List α}(h:eQ sz R css l)(n:Nat):eQ sz R (css.take n) (l.take n):=by
 refine⟨by simp[h.len],λc hc=>h.size c (aGk hc),λj c y hc hy=>?_⟩;have h1:=ap hc;simp at h1;rw[aGj ab]at hc hy;exact h.cq j c y hc hy
theorem EO{sz:Nat}:∀(css:List (List Ce))(n:Nat),(∀c∈css,c.length=sz)->css.flatten.take (n*sz)=(css.take n).flatten
 |[],n,_=>az
 |x::css,0,_=>az
 |x::css,n+1,h=>by
  have hx:=h x aF3;rw[aGS,List.take_append,aG6 (by rw[hx,aGE];omega),aHJ,aGS];have e:(n+1)*sz -x.length=n*sz:=by rw[hx,aGE];omega
  rw[e,EO css n λc hc=>h c (aFT _ hc)]
section
variable{N:Nat}{ro:Nat->Nat}{m:ah}{hp:Sl}{h:List aR}
theorem dk.len(hh:dk N ro m hp h):hp.len=h.length:=by
 obtain⟨css,h1,h2,_⟩:=hh;have:=h1.len;rw[bZ h2.size,h2.len]at this;omega
theorem dk.bH(hh:dk N ro m hp h){a:Nat}{c:aR}(hc:h[a]? =some c):∃f,ad m hp.ao (hp.off+a*3)=some (vi c.aG)/\ad m hp.ao (hp.off+a*3+1)=some (vi c.jW)/\ad m hp.ao (hp.off+a*3+2)=some (Sl.v f)/\aj m f c.aB/\FN N ro m f c.aB:=by
 obtain⟨css,h1,h2,_⟩:=hh;obtain⟨cs,kJ⟩:=ae (l:=css) (k:=a) (by rw[h2.len];exact ap hc);obtain⟨f,rfl,hf,h0⟩:=h2.cq a cs c kJ hc;have r:=λi c hc=>h1.iu (a*3+i) c (fy h2.size kJ hc);exact⟨f,r 0 (.i c.aG) rfl,r 1 (.i c.jW) rfl,r 2 (.s f) rfl,hf,h0⟩
theorem dk.cells(hh:dk N ro m hp h)(hl:h.length<=9223372036854775807):cy m hp h:=by
 have hlen:=hh.len;obtain⟨css,h1,h2,_⟩:=hh;refine⟨hlen,h1.le,ab,λk x hk=>?_⟩;obtain⟨cs,kJ⟩:=ae (l:=css) (k:=k) (by rw[h2.len];exact ap hk);obtain⟨f,rfl,hf,h0⟩:=h2.cq k cs x kJ hk;refine⟨_,⟨f,rfl,hf⟩,λi c hc=>?_⟩;have:=h1.iu (k*3+i) c (fy h2.size kJ hc);rwa[<-aGm]at this
theorem dk.wr(hh:dk N ro m hp h){a o n:Nat}(ha:a<h.length)(ho:o+n<=3):dW m hp.ao (hp.off+a*3+o) n:=by
 obtain⟨css,h1,h2,_⟩:=hh;rw[aGm];exact h1.wr (by rw[bZ h2.size,h2.len];have:(a+1)*3<=h.length*3:=aGh _ ha;omega)
theorem dk.ao(hh:dk N ro m hp h){a:Nat}(ha:a<h.length):ro hp.ao=3/\hp.ao<m.size:=by
 have hl:=hh.len;obtain⟨css,h1,h2,_⟩:=hh;have:=h1.le;have:=h1.ao ab;exact⟨this.2,this.1⟩
def FOk(N:Nat)(ro:Nat->Nat)(m:ah)(hp:Sl)(h:List aR)(f:Sl)(l:List Int):Prop:=
 l≠[]->(ro f.ao=0/\N<=f.ao/\FB m f l)/\∀(i:Nat)(g:Sl),i<h.length->ad m hp.ao (hp.off+i*3+2)=some (Sl.v g)->g.len≠0->g.ao≠f.ao
theorem FB.fQ{m0:ah}{f:Sl}{l:List Int}(h:gQ m0 m au 1 f (l.map Ce.i))(hl:l≠[]):m0.size<=f.ao/\FB m f l:=by
 rcases h.aE with e|⟨b,c,tail,e,h2,h3,_,_⟩
 ·have h1:=h.len;rw[e,aGy,Sl.NS,aH3]at h1;exact absurd (List.length_eq_zero_iff.1 h1) hl
 ·rw[e];exact⟨h2,c,tail,rfl,h3⟩
theorem FOk.of{mA:ah}{roA:Nat->Nat}{f:Sl}{l:List Int}(hhA:dk N roA mA hp h)(hk:0<h.length->m[hp.ao]? =mA[hp.ao]?)(ho:l≠[]->gQ mA m au 1 f (l.map Ce.i))(h0:l≠[]->ro f.ao=0)(hN:N<=mA.size):FOk N ro m hp h f l:=λhl=>by
 obtain⟨h1,h2⟩:=FB.fQ (ho hl) hl;refine⟨⟨h0 hl,ab,h2⟩,λi g hi hg hgl=>?_⟩;obtain⟨c,hc⟩:=ae hi;obtain⟨g',_,_,k2,kf,_⟩:=hhA.bH hc;rw[aA (hk ab),k2]at hg;have:=Sl.HN.1 (aHv hg);subst this;have cx:c.aB≠[]:=λe=>by have:=kf.len;rw[e]at this;simp at this;exact hgl this
 have:=nt kf cx;omega
theorem dk.put(hh:dk N ro m hp h)(zw:∀b,m.size<=b->ro b=0){a o:Nat}{c c':aR}(hc:h[a]? =some c){new:List Ce}(ho:o+new.length<=3)
 (FE:∀f,aj m f c.aB->FN N ro m f c.aB->∃f',fP [.i c.aG,.i c.jW,.s f] o new=[.i c'.aG,.i c'.jW,.s f']/\aj m f' c'.aB/\FN N ro m f' c'.aB/\(f'=f\/FOk N ro m hp h f' c'.aB)):
 dk N ro (ag m hp.ao (hp.off+a*3+o) new) hp (h.set a c')/\cJ (λk=>k=3) ro m ro (ag m hp.ao (hp.off+a*3+o) new):=by
 have cA:=ap hc
 have XB:=hh.ao cA
 have ami:cJ (λk=>k=3) ro m ro (ag m hp.ao (hp.off+a*3+o) new):=cJ.ag zw XB.1 _ _
 obtain⟨css,h1,h2,h4⟩:=hh
 obtain⟨cs,kJ⟩:=ae (l:=css) (k:=a) (by rw[h2.len];exact cA)
 obtain⟨f,rfl,hf,h0⟩:=h2.cq a cs c kJ hc
 obtain⟨f',e1,OO,h0',hd⟩:=FE f hf h0
 have key:∀(j:Nat)(cj:List Ce)(b:Sl),css[j]? =some cj->cj[2]? =some (.s b)->j≠a->f'.len≠0->b.len≠0->f'.ao≠b.ao:=λj cj b hj hb hja h5 h6=>by
  rcases hd with rfl|hd
  ·exact h4 a j _ cj f' b kJ hj rfl hb (λe=>hja e.symm) h5 h6
  ·have cx:c'.aB≠[]:=λe=>by have:=OO.len;rw[e]at this;simp at this;exact h5 this
   refine aHh ((hd cx).2 j b (by rw[<-h2.len];exact ap hj) ?_ h6);have:=h1.iu (j*3+2) _ (fy h2.size hj hb);rwa[<-aGm]at this
 refine⟨⟨css.set a (fP [.i c.aG,.i c.jW,.s f] o new),?_,?_,?_⟩,ami⟩
 ·rw[<-Np css a _ o new h2.size kJ ho,aGm]
  exact h1.set (by rw[bZ h2.size,h2.len];have:(a+1)*3<=h.length*3:=aGh _ cA;omega)
 ·rw[e1]
  exact(h2.set a rfl ⟨f',rfl,OO,h0'⟩).mono (HV.dT ami aO)
 ·rw[e1]
  have jK:=ap kJ
  intro i j ci cj x y hi hj hx hy hij h5 h6
  by_cases ia:i=a
  ·subst ia
   rw[aGl jK]at hi
   rw[aGn hij]at hj
   simp at hi;subst hi
   simp at hx;subst hx
   exact key j cj y hj hy (λe=>hij e.symm) h5 h6
  ·rw[aGn (λe=>ia e.symm)]at hi
   by_cases ja:j=a
   ·subst ja
    rw[aGl jK]at hj
    simp at hj;subst hj
    simp at hy;subst hy
    exact aHh (key i ci x hi hx hij h6 h5)
   ·rw[aGn (λe=>ja e.symm)]at hj
    exact h4 i j ci cj x y hi hj hx hy hij h5 h6
theorem dk.EP(hh:dk N ro m hp h)(zw:∀b,m.size<=b->ro b=0){a:Nat}{c:aR}(hc:h[a]? =some c)(n:Int):
 dk N ro (ag m hp.ao (hp.off+a*3) [.i n]) hp (h.set a {c with aG:=n})/\cJ (λk=>k=3) ro m ro (ag m hp.ao (hp.off+a*3) [.i n]):=
 hh.put zw hc (o:=0) (new:=[.i n]) az λf hf h0=>⟨f,rfl,hf,h0,Or.inl rfl⟩
theorem dk.setCell(hh:dk N ro m hp h)(zw:∀b,m.size<=b->ro b=0){a:Nat}(ha:a<h.length)(n t:Int){f:Sl}{l:List Int}(hf:aj m f l)(h0:FOk N ro m hp h f l):
 dk N ro (ag m hp.ao (hp.off+a*3) [.i n,.i t,.s f]) hp (h.set a ⟨n,t,l⟩)/\cJ (λk=>k=3) ro m ro (ag m hp.ao (hp.off+a*3) [.i n,.i t,.s f]):=by
 obtain⟨c,hc⟩:=ae ha
 exact hh.put zw hc (o:=0) (new:=[.i n,.i t,.s f]) az λf1 hf1 h01=>⟨f,rfl,hf,λhl=>(h0 hl).1,Or.inr h0⟩
theorem dk.cut(hh:dk N ro m hp h){n:Nat}(hn:n<=h.length):dk N ro m (hp.cut 0 n 3) (h.take n):=by
 have hl:=hh.len;obtain⟨css,h1,h2,h4⟩:=hh;refine⟨css.take n,by rw[<-EO css n h2.size];exact h1.cut ab,h2.take n,λi j ci cj a b hi hj=>?_⟩;have rI:i<n:=by have:=ap hi;simp at this;omega
 have hjn:j<n:=by have:=ap hj;simp at this;omega
 rw[aGj rI]at hi;rw[aGj hjn]at hj;exact h4 i j ci cj a b hi hj
theorem dk.push(hh:dk N ro m hp h)(zw:∀b,m.size<=b->ro b=0){x:Sl}(hx:x.len=1){n t:Int}{f:Sl}{l:List Int}(hr:eK m x.ao x.off [.i n,.i t,.s f])(hf:aj m f l)(h0:FOk N ro m hp h f l)(xp:h.length<=2000000000){K:Sl->ah->Prop}
 (hk:∀bG r m',dk N bG m' r (h++[⟨n,t,l⟩])->cJ (λk=>k=3) ro m bG m'->K r m'):gA m qb [.i (0:Int),.i (0:Int),.s Sl.nil] 40 hp x K:=by
 have hlen:=hh.len
 obtain⟨css,h1,h2,h4⟩:=hh
 refine fB.append (zs:=[.i 0,.i 0,.s .nil]) (new:=[.i n,.i t,.s f]) h1 zw (by simp[hx]) hr ab λbG r m' q1 q2=>hk bG r m' ⟨css++[[.i n,.i t,.s f]],by simpa using q1,?_,?_⟩ q2
 ·exact(h2.xI (cs:=[.i n,.i t,.s f]) (x:=⟨n,t,l⟩) rfl ⟨f,rfl,hf,λhl=>(h0 hl).1⟩).mono (HV.dT q2 aO)
 have key:∀(j:Nat)(cj:List Ce)(b:Sl),css[j]? =some cj->cj[2]? =some (.s b)->f.len≠0->b.len≠0->f.ao≠b.ao:=λj cj b hj hb h5 h6=>by
  have cx:l≠[]:=λe=>by have:=hf.len;rw[e]at this;simp at this;exact h5 this
  refine aHh ((h0 cx).2 j b (by rw[<-h2.len];exact ap hj) ?_ h6);have:=h1.iu (j*3+2) _ (fy h2.size hj hb);rwa[<-aGm]at this
 have Mg:∀{i:Nat}{ci:List Ce}{a:Sl},(css++[[.i n,.i t,.s f]])[i]? =some ci->ci[2]? =some (.s a)->css[i]? =some ci\/(i=css.length/\a=f):=λ{i ci a} hi ha=>by
  rcases aF1 i css.length with h5|h5
  ·rw[aFV h5]at hi;exact Or.inl hi
  ·rw[aFX h5]at hi;have h6:i -css.length=0:=by have:=ap hi;simp at this;omega
   rw[h6]at hi;simp at hi;subst hi;simp at ha;exact Or.inr ⟨ab,ha.symm⟩
 intro i j ci cj a b hi hj ha hb hij h5 h6
 rcases Mg hi ha with h7|⟨h7,rfl⟩
 ·rcases Mg hj hb with h8|⟨h8,rfl⟩
  ·exact h4 i j ci cj a b h7 h8 ha hb hij h5 h6
  ·exact aHh (key i ci a h7 ha h6 h5)
 ·rcases Mg hj hb with h8|⟨h8,rfl⟩
  ·exact key j cj b h8 hb h5 h6
  ·omega
end
structure ru(ro:Nat->Nat)(m:ah)(fr:Sl)(fs:List aM)(f:aM)(r o h:Sl)(css:List (List Ce)):Prop where
 rm:fB ro m dh 6 4 fr (css.flatten++[.i f.dJ,.i f.pc,.i f.dst,.s r,.s o,.s h])
 len:css.length=fs.length
 size:∀cs∈css,cs.length=6
 cq:∀(i:Nat)(cs:List Ce)(g:aM),css[i]? =some cs->fs[i]? =some g->Zz ro m i cs g
 an:fB ro m au 1 (10+3*fs.length) r (f.an.map Ce.i)
 aL:fB ro m au 1 (11+3*fs.length) o (f.aL.map Ce.i)
 aQ:fB ro m au 1 (12+3*fs.length) h (f.aQ.map Ce.i)
section
variable{ro bG:Nat->Nat}{m m':ah}{fr:Sl}{fs:List aM}{f:aM}{r o h:Sl}{css:List (List Ce)}
theorem ns.fC(hh:ns ro m fr (fs++[f])):∃r o h css,ru ro m fr fs f r o h css:=by
 obtain⟨css,h1,h2,h3,h4⟩:=hh;have cx:css≠[]:=λe=>by rw[e]at h2;simp at h2
 have e:css=css.dropLast++[css.getLast cx]:=(aGD cx).symm;generalize css.dropLast=c0 at e;generalize css.getLast cx=cl at e;subst e;have hl:c0.length=fs.length:=by simpa using h2
 obtain⟨r,o,h,rfl,hr,ho,hh⟩:=h4 fs.length cl f (by rw[aFX ab];simp[hl]) az;refine⟨r,o,h,c0,by simpa using h1,hl,λcs hc=>h3 cs (by simp[hc]),λi cs g h5 h6=>h4 i cs g ?_ ?_,hr,ho,hh⟩
 ·rw[aFV (ap h5)];exact h5
 ·rw[aFV (ap h6)];exact h6
theorem ru.rH(T:ru ro m fr fs f r o h css):ns ro m fr (fs++[f]):=by
 refine⟨css++[[.i f.dJ,.i f.pc,.i f.dst,.s r,.s o,.s h]],by simpa using T.rm,by simp[T.len],λcs hc=>?_,λi cs g h1 h2=>?_⟩
 ·rcases List.mem_append.1 hc with hc|hc
  ·exact T.size cs hc
  ·simp at hc;subst hc;rfl
 ·rcases aF1 i fs.length with hi|hi
  ·rw[aFV (by rw[T.len];exact hi)]at h1;rw[aFV hi]at h2;exact T.cq i cs g h1 h2
  ·have hi2:i=fs.length:=by have:=ap h2;simp at this;omega
   subst hi2;rw[aFX (by rw[T.len];omega)]at h1;simp[T.len]at h1 h2;subst h1;subst h2;exact⟨r,o,h,rfl,T.an,T.aL,T.aQ⟩
theorem ru.EQ(T:ru ro m fr fs f r o h css):fr.len=fs.length+1:=by
 have:=T.rm.len;simp only[aF4,bZ T.size,T.len,aF5,aGv]at this;omega
theorem ru.iu(T:ru ro m fr fs f r o h css):ad m fr.ao (fr.off+fs.length*6)=some (vi f.dJ)/\ad m fr.ao (fr.off+fs.length*6+1)=some (vi f.pc)/\ad m fr.ao (fr.off+fs.length*6+2)=some (vi f.dst)/\
 ad m fr.ao (fr.off+fs.length*6+3)=some (Sl.v r)/\ad m fr.ao (fr.off+fs.length*6+4)=some (Sl.v o)/\ad m fr.ao (fr.off+fs.length*6+5)=some (Sl.v h):=by
 have hl:css.flatten.length=fs.length*6:=by rw[bZ T.size,T.len]
 have r1:=λ(i:Nat)(c:Ce)(hc:[Ce.i f.dJ,Ce.i f.pc,Ce.i f.dst,Ce.s r,Ce.s o,Ce.s h][i]? =some c)=>T.rm.iu (fs.length*6+i) c (by rw[aFX ab,hl,aHw];exact hc)
 exact⟨r1 0 (.i f.dJ) rfl,r1 1 (.i f.pc) rfl,r1 2 (.i f.dst) rfl,r1 3 (.s r) rfl,r1 4 (.s o) rfl,r1 5 (.s h) rfl⟩
theorem ru.dT{p:Nat->Prop}(T:ru ro m fr fs f r o h css)(hc:cJ p ro m bG m')(hp:∀k,(k=4\/10<=k)->¬p k):ru bG m' fr fs f r o h css:=
 ⟨T.rm.dT hc (hp _ ab),T.len,T.size,λi cs g h1 h2=>(T.cq i cs g h1 h2).dT hc λk hk _=>hp k ab,T.an.dT hc (hp _ ab),T.aL.dT hc (hp _ ab),T.aQ.dT hc (hp _ ab)⟩
theorem ru.ext(T:ru ro m fr fs f r o h css)(hn:∀b,m.size<=b->ro b=0)(hx:af m m'):ru ro m' fr fs f r o h css:=T.dT (cJ.dS (λ_=>False) hx hn) λ_ _=>id
theorem ru.wc{p:Nat->Prop}(T:ru ro m fr fs f r o h css)(hc:cJ p ro m bG m')(hp:∀k,10<=k->k<10+3*fs.length->¬p k):∀(i:Nat)(cs:List Ce)(g:aM),css[i]? =some cs->fs[i]? =some g->Zz bG m' i cs g:=λi cs g h1 h2=>
 (T.cq i cs g h1 h2).dT hc λk hk _=>hp k ab (by have:=ap h2;omega)
theorem ru.Hi(T:ru ro m fr fs f r o h css)(hn:∀b,m.size<=b->ro b=0){i:Int}(h0:0<=i)(h1:i<f.an.length)(v:Int):
 ru ro (ag m r.ao (r.off+i.toNat*1) [.i v]) fr fs {f with an:=fx f.an i v} r o h css/\cJ (λk=>4<=k/\k≠9) ro m ro (ag m r.ao (r.off+i.toNat*1) [.i v]):=by
 have LN:r.cap≠0:=λe=>by have:=(T.an.BD e).1;simp at this;rw[this]at h1;simp at h1;omega
 have hb:=T.an.ao LN
 have hc:cJ (λk=>k=10+3*fs.length) ro m ro (ag m r.ao (r.off+i.toNat*1) [.i v]):=cJ.ag hn hb.2 _ _
 exact⟨⟨T.rm.dT hc ab,T.len,T.size,T.wc hc λk _ h3=>ab,T.an.fx h0 h1 v,T.aL.dT hc ab,T.aQ.dT hc ab⟩,hc.mono λk hk=>ab⟩
theorem ru.zm(T:ru ro m fr fs f r o h css)(hn:∀b,m.size<=b->ro b=0){i:Int}(h0:0<=i)(h1:i<f.aL.length)(v:Int):
 ru ro (ag m o.ao (o.off+i.toNat*1) [.i v]) fr fs {f with aL:=fx f.aL i v} r o h css/\cJ (λk=>4<=k/\k≠9) ro m ro (ag m o.ao (o.off+i.toNat*1) [.i v]):=by
 have LN:o.cap≠0:=λe=>by have:=(T.aL.BD e).1;simp at this;rw[this]at h1;simp at h1;omega
 have hb:=T.aL.ao LN
 have hc:cJ (λk=>k=11+3*fs.length) ro m ro (ag m o.ao (o.off+i.toNat*1) [.i v]):=cJ.ag hn hb.2 _ _
 exact⟨⟨T.rm.dT hc ab,T.len,T.size,T.wc hc λk _ h3=>ab,T.an.dT hc ab,T.aL.fx h0 h1 v,T.aQ.dT hc ab⟩,hc.mono λk hk=>ab⟩
theorem ru.ER(T:ru ro m fr fs f r o h css)(hn:∀b,m.size<=b->ro b=0){i:Int}(h0:0<=i)(h1:i<f.aQ.length)(v:Int):
 ru ro (ag m h.ao (h.off+i.toNat*1) [.i v]) fr fs {f with aQ:=fx f.aQ i v} r o h css/\cJ (λk=>4<=k/\k≠9) ro m ro (ag m h.ao (h.off+i.toNat*1) [.i v]):=by
 have LN:h.cap≠0:=λe=>by have:=(T.aQ.BD e).1;simp at this;rw[this]at h1;simp at h1;omega
 have hb:=T.aQ.ao LN
 have hc:cJ (λk=>k=12+3*fs.length) ro m ro (ag m h.ao (h.off+i.toNat*1) [.i v]):=cJ.ag hn hb.2 _ _
 exact⟨⟨T.rm.dT hc ab,T.len,T.size,T.wc hc λk _ h3=>ab,T.an.dT hc ab,T.aL.dT hc ab,T.aQ.fx h0 h1 v⟩,hc.mono λk hk=>ab⟩
theorem ru.ao(T:ru ro m fr fs f r o h css):ro fr.ao=4/\fr.ao<m.size:=by
 have:=T.EQ;have:=T.rm.le;have:=T.rm.ao ab;exact⟨this.2,this.1⟩
theorem ru.TM(T:ru ro m fr fs f r o h css)(hn:∀b,m.size<=b->ro b=0)(v:Int):
 ru ro (ag m fr.ao (fr.off+fs.length*6+1) [.i v]) fr fs {f with pc:=v} r o h css/\cJ (λk=>4<=k/\k≠9) ro m ro (ag m fr.ao (fr.off+fs.length*6+1) [.i v]):=by
 have hb:=T.ao
 have hc:cJ (λk=>k=4) ro m ro (ag m fr.ao (fr.off+fs.length*6+1) [.i v]):=cJ.ag hn hb.1 _ _
 refine⟨⟨?_,T.len,T.size,T.wc hc λk h2 h3=>ab,T.an.dT hc ab,T.aL.dT hc ab,T.aQ.dT hc ab⟩,hc.mono λk hk=>ab⟩
 have hl:css.flatten.length=fs.length*6:=by rw[bZ T.size,T.len]
 have:=T.rm.set (o:=fs.length*6+1) (new:=[.i v]) (by simp[hl])
 rw[kE _ _ _ _ ab,hl,aHw]at this
 rw[aGm];exact this
theorem ru.ajG(T:ru ro m fr fs f r o h css):dW m fr.ao (fr.off+fs.length*6+1) 1:=by
 rw[aGm];exact T.rm.wr (by simp only[aF4,bZ T.size,T.len,aF5,aGv];omega)
end
theorem ns.pop{ro:Nat->Nat}{m:ah}{fr:Sl}{fs:List aM}{f:aM}(hh:ns ro m fr (fs++[f])):ns ro m (fr.cut 0 fs.length 6) fs:=by
 obtain⟨r,o,h,css,T⟩:=hh.fC;have hl:css.flatten.length=fs.length*6:=by rw[bZ T.size,T.len]
 have:=T.rm.cut (n:=fs.length) (by rw[T.EQ];omega);rw[aG2 ab,aG6 ab]at this;exact⟨css,this,T.len,T.size,T.cq⟩
theorem ns.push{ro:Nat->Nat}{m:ah}{fr:Sl}{fs:List aM}(hh:ns ro m fr fs)(hn:∀b,m.size<=b->ro b=0){x:Sl}(hx:x.len=1){f:aM}{r o h:Sl}(hr:eK m x.ao x.off [.i f.dJ,.i f.pc,.i f.dst,.s r,.s o,.s h])
 (h1:fB ro m au 1 (10+3*fs.length) r (f.an.map Ce.i))(h2:fB ro m au 1 (11+3*fs.length) o (f.aL.map Ce.i))(h3:fB ro m au 1 (12+3*fs.length) h (f.aQ.map Ce.i))(xp:fs.length<=1000000){K:Sl->ah->Prop}
 (hk:∀bG r m',ns bG m' r (fs++[f])->cJ (λk=>k=4) ro m bG m'->K r m'):gA m dh [.i (0:Int),.i (0:Int),.i (0:Int),.s Sl.nil,.s Sl.nil,.s Sl.nil] 96 fr x K:=by
 obtain⟨css,q1,q2,q3,q4⟩:=hh
 have gL:fr.len=fs.length:=by have:=q1.len;rw[bZ q3,q2]at this;omega
 refine fB.append (zs:=[.i 0,.i 0,.i 0,.s .nil,.s .nil,.s .nil]) (new:=[.i f.dJ,.i f.pc,.i f.dst,.s r,.s o,.s h]) q1 hn (by simp[hx]) hr ab λbG s m' p1 p2=>hk bG s m' ?_ p2
 exact ru.rH (f:=f) (fs:=fs) (css:=css) (r:=r) (o:=o) (h:=h) ⟨by simpa using p1,q2,q3,λi cs g h5 h6=>(q4 i cs g h5 h6).dT p2 λk hk _=>ab,h1.dT p2 ab,h2.dT p2 ab,h3.dT p2 ab⟩
end
theorem H4:∀(h:List aR)(k:Nat),k<=h.length->(∀c∈h.take k,c.aG≠0)->k<=dD h
 |[],k,hk,_=>by simp at hk;simp[hk]
 |c::h,0,_,_=>aGq _
 |c::h,k+1,hk,hn=>by
  have h1:=hn c az;have:=H4 h k (by simpa using hk) (λd hd=>hn d (by simp[hd]));simp only[dD];rw[aFS h1];omega
theorem Nq:∀(h:List aR)(k:Nat)(c:aR),(∀d∈h.take k,d.aG≠0)->h[k]? =some c->c.aG=0->dD h=k
 |[],k,c,_,hc,_=>by simp at hc
 |d::h,0,c,_,hc,h0=>by simp at hc;subst hc;simp[dD,h0]
 |d::h,k+1,c,hn,hc,h0=>by
  have h1:=hn d az;have:=Nq h k c (λx hx=>hn x (by simp[hx])) (by simpa using hc) h0;simp only[dD];rw[aFS h1,this]
theorem ET{m:ah}{hp:Sl}{h:List aR}(hh:cy m hp h):Mc Tryz.prog 174 [Sl.v hp] m (vi (dD h)):=by
 apply yB;have hl:=hh.len;refine dg (n:=h.length) (hl▸hh.eP) (λk m'=>af m m'/\∀c∈h.take k,c.aG≠0) ⟨af.av _,az⟩ ?_;rintro k m1 I μ hk ⟨hx,hn⟩ next
 refine⟨λh1=>?_,λh1=>?_⟩
 ·simp only[aFP]at h1;obtain⟨c,hc⟩:=ae (l:=h) (k:=k) ab;obtain⟨f,hf,g0,_⟩:=(cy.ext hx hh).aE hc;refine⟨ab,ab,c.aG,by simpa using g0,λh2=>⟨?_,hx⟩,λh2=>next ab _ ⟨hx,aZ hc hn (by simpa using h2)⟩⟩;rw[Nq h k c hn hc (by simpa using h2)]
 ·simp only[aFQ]at h1;refine⟨?_,hx⟩;have:=H4 h k hk hn;have:=um h;have e:(hp.len:Int)=(dD h:Int):=ab;rw[e]
def uG(ro:Nat->Nat)(b k:Nat):Nat->Nat:=λc=>if c=b then k else ro c
theorem fU(ro:Nat->Nat)(b k:Nat):uG ro b k b=k:=aFW rfl
theorem dO{ro:Nat->Nat}{b k c:Nat}(h:c≠b):uG ro b k c=ro c:=aFS h
theorem cJ.uG{p:Nat->Prop}{ro:Nat->Nat}{m m':ah}(hx:af m m')(hn:∀b,m.size<=b->ro b=0){b:Nat}(hb:m.size<=b)(jx:b<m'.size)(k:Nat):cJ p ro m (uG ro b k) m':=
 ⟨hx.size,λc hc=>dO ab,λc hc=>by rw[dO ab];exact hn c (aF8 hx.size hc),λc hc _=>hx.same c hc⟩
theorem Mz{N:Nat}{ro:Nat->Nat}{m:ah}{hp:Sl}{h:List aR}(hh:dk N ro m hp h)(hn:∀b,m.size<=b->ro b=0){a:Nat}(ha:a<=h.length)(t:Int){fs:Sl}{l:List Int}(hf:aj m fs l)(xp:h.length<=2000000000)(hl:l.length<=1000000000)(hN:N<=m.size):
 aD Tryz.prog 175 [Sl.v hp,vi a,vi t,Sl.v fs] m λv m'=>∃bG Ac,v=Sl.v Ac/\dk N bG m' Ac (jQ h a ⟨1,t,l⟩)/\HC ro m bG m':=by
 apply Ge
 simp -zeta only[aw,ax]
 refine(eC hf hl).then hl λs m1 o1 i1 h1=>⟨s,rfl,?_⟩
 intro m2 m3
 have uJ:af m1 m3:=((af.av m1).aC _).ag (aFR _) _ _
 have s3:m3.size=m1.size+1:=by simp[m3,m2,aq]
 have lO:=h1.trans uJ
 clear_value m3
 have c3:HC ro m ro m3:=cJ.dS _ lO hn
 have hn3:=c3.new
 have hh3:dk N ro m3 hp h:=hh.dT (cJ.dS (λ_=>False) lO hn) id id
 have hlen:=hh.len
 have i3:=i1.ext uJ
 have hs0:l≠[]->ro s.ao=0:=λcx=>by
  rcases o1.ao with e|e
  ·subst e;have:=i1.len;simp at this;exact absurd (List.length_eq_zero_iff.1 this.symm) cx
  ·exact hn _ e
 have BQ:ro m1.size=0:=hn _ h1.size
 refine⟨λe=>?_,λe=>?_⟩
 ·simp at e
  intro m4
  have FJ:af m3 m4:=(af.av m3).aC _
  have ji:eK m4 m3.size 0 [.i 1,.i t,.s s]:=(bK.push m3 _ _).iu
  have c4:HC ro m ro m4:=c3.trans (cJ.dS _ FJ hn3)
  have s4:m4.size=m3.size+1:=by simp[m4]
  clear_value m4
  refine dk.push (hh3.dT (cJ.dS (λ_=>False) FJ hn3) id id) c4.new (x:=.mk m3.size 0 1 1) rfl ji (i3.ext FJ) (FOk.of hh (λh0=>(lO.trans FJ).same _ (hh.ao h0).2) (λ_=>o1.ext (uJ.trans FJ)) hs0 hN) xp λbG r m5 q1 q2=>⟨λb hb=>?_,bG,r,rfl,?_,c4.trans (q2.mono λk hk=>Or.inl hk)⟩
  ·simp at hb;subst hb
   exact q2.eg _ ab (by rw[BQ];decide)
  ·rw[jQ,aFW ab];exact q1
 ·simp at e
  have FH:a<h.length:=ab
  have e1:Int.toNat (a:Int)=a:=ab
  rw[e1]
  refine⟨ab,ab,hh3.wr (o:=0) FH aO,?_⟩
  intro m5
  obtain⟨q1,q2⟩:=hh3.setCell hn3 FH 1 t i3 (FOk.of hh (λh0=>lO.same _ (hh.ao h0).2) (λ_=>o1.ext uJ) hs0 hN)
  refine⟨λb hb=>?_,ro,hp,rfl,?_,c3.trans (q2.mono λk hk=>Or.inl hk)⟩
  ·simp at hb;subst hb
   exact q2.eg _ ab (by rw[BQ];decide)
  ·rw[jQ,aFS ab];exact q1
theorem Sb{h:List aR}{n:Nat}{c:aR}(hc:h[n]? =some c)(h0:c.aG≠0):iW h (n+1)=n+1:=by
 simp only[iW,hc];rw[aFS h0]
theorem Xj{h:List aR}{n:Nat}{c:aR}(hc:h[n]? =some c)(h0:c.aG=0):iW h (n+1)=iW h n:=by
 simp only[iW,hc];rw[aFW h0]
theorem vI{m:ah}{hp:Sl}{h:List aR}(hh:cy m hp h):aD Tryz.prog 177 [Sl.v hp] m λv m'=>v=Sl.v (hp.cut 0 (iW h h.length) 3)/\af m m':=by
 apply Iy;have hl:=hh.len;have Vi:=hh.cap;have zG:=hh.eP;refine⟨λi m'=>af m m'/\∃n:Nat,i=n/\n<=h.length/\iW h n=iW h h.length,λi _=>i.toNat,⟨af.av _,h.length,ab,aFR _,rfl⟩,?_⟩;rintro i m1 ⟨hx,n,rfl,hn,ht⟩;have fG:iW h n=n->Value.slice=Value.slice->(0:Int)<=(0:Int)/\(0:Int)<=(n:Int)/\(n:Int)<=(hp.cap:Int)/\(Sl.v (Sl.cut hp (Int.toNat (0:Int)) (Int.toNat (n:Int)) 3)=Sl.v (hp.cut 0 (iW h h.length) 3)/\af m m1):=λe _=>by
  refine⟨ab,ab,ab,?_,hx⟩;rw[<-ht,e];rfl
 refine⟨λh1=>?_,λh1=>?_⟩
 ·simp only[aHn,aFP]at h1;obtain⟨k,rfl⟩:∃k,n=k+1:=⟨n -1,ab⟩;have e1:bS (((k+1:Nat):Int) -1)=(k:Int):=by rw[aF ab ab];omega
  rw[e1];obtain⟨c,hc⟩:=ae (l:=h) (k:=k) ab;obtain⟨f,hf,g0,_⟩:=(cy.ext hx hh).aE hc;refine⟨ab,ab,c.aG,by simpa using g0,λh2=>⟨⟨hx,k,rfl,ab,?_⟩,by show(k:Int).toNat<((k+1:Nat):Int).toNat;omega⟩,λh2=>?_⟩
  ·rw[<-ht,Xj hc (by simpa using h2)]
  ·exact fG (Sb hc (by simpa using h2)) rfl
 ·simp only[aHn,aFQ]at h1;have:n=0:=ab;subst this;exact fG rfl rfl
theorem fB.pop{ro:Nat->Nat}{m:ah}{k:Nat}{s:Sl}{l:List Int}{w:Int}(h:fB ro m au 1 k s ((l++[w]).map Ce.i)):s.len=l.length+1/\ad m s.ao (s.off+l.length*1)=some (vi w)/\fB ro m au 1 k (s.cut 0 l.length 1) (l.map Ce.i):=by
 have hl:s.len=l.length+1:=by have:=h.len;simp at this;omega
 refine⟨hl,?_,?_⟩
 ·have:=h.iu l.length (.i w) az;rw[aGr];exact this
 ·have:=h.cut (n:=l.length) ab;rw[aGr,aGz,aG2 az,aG6 az]at this;exact this
theorem dZ.aax{h:List aR}{w:Int}{r:List Int}{e:Nat->Int}(hi:dZ h (λb=>e b+cX (w::r) b))(h0:∀b,0<=e b)(hl:gJ h w)(h1:(aK h w).aG=1):dZ (h.set (ix w) iv) (λb=>e b+cX ((aK h w).aB.reverse++r) b):=by
 obtain⟨hc,hp⟩:=bE hl;refine dZ.RG hi hc h1 ?_ aO aO rfl (by simp[iv]) (by simp[iv]) (λ_=>rfl) λb=>?_
 ·simp only[fq hl.1,aFW];have:=h0 (ix w);have:=fp r (ix w);omega
 ·simp only[fq hl.1,mh,yZ];omega
theorem dZ.Xk{h:List aR}{w:Int}{r:List Int}{e:Nat->Int}(hi:dZ h (λb=>e b+cX (w::r) b))(h0:∀b,0<=e b)(hl:gJ h w)(h1:(aK h w).aG≠1):dZ (eE h w) (λb=>e b+cX r b):=by
 obtain⟨hc,hp⟩:=bE hl;have hm:=(hi.cell _ (ak hc)).hi;refine dZ.Jq hi hc hp ab ab (λb=>?_) ?_
 ·simp only[fq hl.1];split<;>omega
 ·have:=h0 (ix w);have:=fp r (ix w);omega
theorem dZ.aay{h:List aR}{w:Int}{r:List Int}{e:Nat->Int}(hi:dZ h (λb=>e b+cX (w::r) b))(hw:w<1000):dZ h (λb=>e b+cX r b):=
 hi.congr λb=>by simp only[cX];rw[aFS ab];omega
theorem dZ.Xl{h:List aR}{w:Int}{r:List Int}{e:Nat->Int}(hi:dZ h (λb=>e b+cX (w::r) b))(h0:∀b,0<=e b)(hw:1000<=w):gJ h w:=
 ⟨hw,hi.lv _ (by simp only[fq hw,aFW];have:=h0 (ix w);have:=fp r (ix w);omega)⟩
def Jb:List aR->Nat
 |[]=>0
 |c::h=>c.aB.length+Jb h
theorem KS:∀{h:List aR}{a:Nat}{c:aR}(c':aR),h[a]? =some c->Jb (h.set a c')+c.aB.length=Jb h+c'.aB.length
 |[],a,c,c',h=>by simp at h
 |d::h,0,c,c',hc=>by simp at hc;subst hc;simp only[aGK,Jb];omega
 |d::h,a+1,c,c',hc=>by
  have:=KS (h:=h) (a:=a) c' (by simpa using hc);simp only[aGL,Jb];omega
theorem TN:∀{h:List aR},(∀c∈h,c.aB.length<=3)->Jb h<=3*h.length
 |[],_=>by simp[Jb]
 |c::h,hc=>by
  have:=TN (λd hd=>hc d (aFT _ hd));have:=hc c aF3;simp only[Jb,aF5];omega
theorem EU{N:Nat}{ro:Nat->Nat}{m:ah}{hp:Sl}{h:List aR}(hh:dk N ro m hp h)(hn:∀b,m.size<=b->ro b=0){ws:Sl}{w:Int}(hw:aj m ws [w]){e:Nat->Int}(hI:dZ h (λb=>e b+cX [w] b))(he:∀b,0<=e b)(xp:h.length<=2000000000):
 aD Tryz.prog 151 [Sl.v hp,Sl.v ws] m λv m'=>∃bG Ac,v=Sl.v Ac/\dk N bG m' Ac (pH (fR h [w]))/\HC ro m bG m':=by
 apply yv
 refine(eC hw az).then az λs0 m1 o1 i1 h1=>⟨s0,rfl,?_⟩
 have hs0:s0≠.nil:=λe=>by subst e;have:=i1.len;simp at this
 have zy:m.size<=s0.ao/\s0.ao<m1.size:=by
  rcases o1.ao with e|e
  ·exact absurd e hs0
  ·rcases o1.lt with e2|e2
   ·exact absurd e2 hs0
   ·exact⟨e,e2⟩
 have c1:HC ro m (uG ro s0.ao 6) m1:=cJ.uG h1 hn zy.1 zy.2 6
 have a1:fB (uG ro s0.ao 6) m1 au 1 6 s0 ([w].map Ce.i):=fB.fQ o1 λ_=>fU _ _ _
 have hh1:dk N (uG ro s0.ao 6) m1 hp h:=hh.dT (cJ.uG (p:=λ_=>False) h1 hn zy.1 zy.2 6) id id
 have Dr:=TN λc hc=>(hI.cell c hc).fl
 have hlen:=hh.len
 refine Tu (γ:=List aR×List Int) (λg todo m'=>∃bG,dk N bG m' hp g.1/\fB bG m' au 1 6 todo (g.2.reverse.map Ce.i)/\HC ro m bG m'/\dZ g.1 (λb=>e b+cX g.2 b)/\fR g.1 g.2=fR h [w]/\g.1.length=h.length/\g.2.length+Jb g.1<=1+Jb h) (λg=>IK g.1+g.2.length) (h,[w])
  ⟨_,hh1,a1,c1,hI,rfl,rfl,az⟩ ?_
 rintro⟨hc,st⟩ todo m2 I μ ⟨j8,hh2,a2,c2,hI2,Us,oC,hf2⟩ next
 simp only[]at hh2 a2 hI2 Us oC hf2
 have MK:todo.len=st.length:=by have:=a2.len;simp at this;omega
 refine⟨λh3=>?_,λh3=>?_⟩
 ·simp only[aHn,aFP]at h3
  cases st with
  |nil=>simp at MK;omega
  |cons x r=>
   simp only[List.reverse_cons]at a2
   obtain⟨p1,p2,p3⟩:=a2.pop
   simp only[aF5,aHM]at MK p1 p2 p3 hf2
   have e1:bS ((todo.len:Int) -1)=(r.length:Int):=by rw[aF ab ab];omega
   have Vi:=a2.le
   rw[e1]
   have e2:Int.toNat (0:Int)=0:=rfl
   have e3:Int.toNat (r.length:Int)=r.length:=ab
   rw[e2,e3]
   refine⟨ab,ab,x,p2,ab,ab,ab,(cG _ _).then λb m3 hb h4=>⟨b,rfl,λnH=>?_,λmF=>?_⟩⟩
   ·have hx:=hb.1 nH
    have iO:=hI2.Xl he hx
    obtain⟨pw,qB⟩:=bE iO
    have cA:=ap pw
    have Uo:ix x=(x -1000).toNat:=rfl
    have hmx:=(hI2.cell _ (ak pw)).hi
    have e4:bS (x -1000)=x -1000:=aF ab ab
    rw[e4,<-Uo]
    have Sj:HC j8 m2 j8 m3:=cJ.dS _ h4 c2.new
    have hh3:dk N j8 m3 hp hc:=hh2.dT (cJ.dS (λ_=>False) h4 c2.new) id id
    have a3:=p3.dT (cJ.dS (λ_=>False) h4 c2.new) id
    obtain⟨f0,g0,_,_,_,_⟩:=hh3.bH pw
    refine⟨ab,ab,_,g0,ab,ab,hh3.wr (o:=0) cA aO,?_⟩
    have e5:bS ((aK hc x).aG -1)=(aK hc x).aG -1:=aF ab ab
    rw[e5]
    intro m4
    obtain⟨hh4,c4⟩:=hh3.EP Sj.new pw ((aK hc x).aG -1)
    have a4:=a3.dT c4 aO
    have c24:HC ro m j8 m4:=(c2.trans Sj).trans (c4.mono λk hk=>Or.inl hk)
    have SE:=kA (c':=iv) pw
    simp only[aFW qB,iv]at SE
    simp at SE
    have SJ:(hc.set (ix x) {aK hc x with aG:=(aK hc x).aG -1})[ix x]? =some {aK hc x with aG:=(aK hc x).aG -1}:=dw pw
    obtain⟨f1,k0,_,k2,kf,kr⟩:=hh4.bH SJ
    refine⟨ab,ab,_,k0,λh5=>?_,λh5=>?_⟩
    ·simp only[aFZ]at h5
     have oD:(aK hc x).aG=1:=ab
     have gL:=(hI2.cell _ (ak pw)).fl
     have QP:=kf.len
     simp only[]at QP kf kr
     have abv:=KS iv pw
     simp only[iv,aGv]at abv
     refine⟨ab,ab,f1,k2,fB.append (zs:=[.i 0]) (new:=(aK hc x).aB.map Ce.i) a4 c24.new (by simp[QP]) kf.RI ?_ λUx q m5 q1 q2=>?_⟩
     ·have:(todo.cut 0 r.length 1).len=r.length:=by have:=a4.len;simp at this;omega
      rw[this,QP];omega
     have hh5:=hh4.dT q2 aO aO
     have c25:HC ro m Ux m5:=c24.trans (q2.mono λk hk=>Or.inr (Or.inr hk))
     intro m6
     have Uy:af m5 m6:=(af.av m5).aC _
     have hh6:=hh5.dT (cJ.dS (λ_=>False) Uy c25.new) id id
     have a6:=q1.dT (cJ.dS (λ_=>False) Uy c25.new) id
     have c26:HC ro m Ux m6:=c25.trans (cJ.dS _ Uy c25.new)
     clear_value m6
     have amk:ix x<(hc.set (ix x) {aK hc x with aG:=(aK hc x).aG -1}).length:=by simpa using cA
     refine⟨ab,ab,hh6.wr (o:=0) amk aO,?_⟩
     intro m7
     obtain⟨hh7,c7⟩:=hh6.setCell c26.new amk 0 0 (f:=.mk m5.size 0 0 0) (l:=[]) ⟨rfl,az,az,az⟩ (λcx=>absurd rfl cx)
     rw[List.set_set]at hh7
     refine next (hc.set (ix x) iv,(aK hc x).aB.reverse++r) _ _ ⟨Ux,hh7,?_,c26.trans (c7.mono λk hk=>Or.inl hk),hI2.aax he iO oD,?_,by simpa using oC,?_⟩ ?_
     ·have:=a6.dT c7 aO
      simpa using this
     ·rw[<-zV iO oD];exact Us
     ·simp only[aF4,aHM]
      have e6:Jb (hc.set (ix x) iv)+(aK hc x).aB.length=Jb hc:=by simpa[iv]using abv
      omega
     ·simp only[aF4,aHM,aF5]
      have e6:IK (hc.set (ix x) iv)+((aK hc x).aG.toNat+(aK hc x).aB.length)=IK hc:=by simpa[iv]using SE
      omega
    ·simp only[aFU]at h5
     have cx:(aK hc x).aG≠1:=ab
     have Lu:=kA (c':={aK hc x with aG:=(aK hc x).aG -1}) pw
     simp only[aFW qB]at Lu
     rw[aFW ab]at Lu
     have abv:=KS {aK hc x with aG:=(aK hc x).aG -1} pw
     refine next (eE hc x,r) _ _ ⟨j8,hh4,a4,c24,hI2.Xk he iO cx,?_,by simpa[eE]using oC,?_⟩ ?_
     ·rw[<-vz iO cx];exact Us
     ·simp only[eE];simp only[]at abv;omega
     ·simp only[eE,aF5];omega
   ·have hx:=fb hb mF
    have Sj:HC j8 m2 j8 m3:=cJ.dS _ h4 c2.new
    refine next (hc,r) _ _ ⟨j8,hh2.dT (cJ.dS (λ_=>False) h4 c2.new) id id,p3.dT (cJ.dS (λ_=>False) h4 c2.new) id,c2.trans Sj,hI2.aay ab,?_,oC,by simp only[];omega⟩ az
    rw[<-vA (w:=x) (λhl=>hx hl.1)];exact Us
 ·simp only[aHn,aFQ]at h3
  have vL:st=[]:=List.length_eq_zero_iff.1 ab
  subst vL
  rw[zU]at Us
  subst Us
  refine(vI (hh2.cells ab)).mono ?_
  rintro _ m3 ⟨rfl,h4⟩
  refine⟨_,rfl,j8,_,rfl,?_,c2.trans (cJ.dS _ h4 c2.new)⟩
  exact(hh2.dT (cJ.dS (λ_=>False) h4 c2.new) id id).cut (qU _ _)
section
structure ST(m0:ah)(ro:Nat->Nat)(m:ah)(mb e:Nat)(bx:List Ce)(aT hp fr:Sl)(lo:List Int)(lh:List aR)(fs:List aM)(f:aM)(r o h:Sl)(css:List (List Ce)):Prop where
 dj:BE m0 ro m mb e bx aT hp fr lo lh (fs++[f])
 fC:ru ro m fr fs f r o h css
section
variable{m0:ah}{ro bG:Nat->Nat}{m m':ah}{mb e:Nat}{bx:List Ce}{aT hp fr:Sl}{lo:List Int}{lh:List aR}{fs:List aM}{f:aM}{r o h:Sl}{css:List (List Ce)}
theorem ST.ext(S:ST m0 ro m mb e bx aT hp fr lo lh fs f r o h css)(hx:af m m'):ST m0 ro m' mb e bx aT hp fr lo lh fs f r o h css/\To ro m ro m':=
 ⟨⟨(S.dj.ext hx).1,S.fC.ext S.dj.new hx⟩,(S.dj.ext hx).2⟩
theorem ST.Hi(S:ST m0 ro m mb e bx aT hp fr lo lh fs f r o h css){i:Int}(h0:0<=i)(h1:i<f.an.length)(v:Int):ST m0 ro (ag m r.ao (r.off+i.toNat*1) [.i v]) mb e bx aT hp fr lo lh fs {f with an:=fx f.an i v} r o h css/\To ro m ro (ag m r.ao (r.off+i.toNat*1) [.i v]):=by
 obtain⟨h2,h3⟩:=S.fC.Hi S.dj.new h0 h1 v;obtain⟨h4,h5⟩:=S.dj.jJ h3 h2.rH;exact⟨⟨h4,h2⟩,h5⟩
theorem ST.zm(S:ST m0 ro m mb e bx aT hp fr lo lh fs f r o h css){i:Int}(h0:0<=i)(h1:i<f.aL.length)(v:Int):ST m0 ro (ag m o.ao (o.off+i.toNat*1) [.i v]) mb e bx aT hp fr lo lh fs {f with aL:=fx f.aL i v} r o h css/\To ro m ro (ag m o.ao (o.off+i.toNat*1) [.i v]):=by
 obtain⟨h2,h3⟩:=S.fC.zm S.dj.new h0 h1 v;obtain⟨h4,h5⟩:=S.dj.jJ h3 h2.rH;exact⟨⟨h4,h2⟩,h5⟩
theorem ST.ER(S:ST m0 ro m mb e bx aT hp fr lo lh fs f r o h css){i:Int}(h0:0<=i)(h1:i<f.aQ.length)(v:Int):ST m0 ro (ag m h.ao (h.off+i.toNat*1) [.i v]) mb e bx aT hp fr lo lh fs {f with aQ:=fx f.aQ i v} r o h css/\To ro m ro (ag m h.ao (h.off+i.toNat*1) [.i v]):=by
 obtain⟨h2,h3⟩:=S.fC.ER S.dj.new h0 h1 v;obtain⟨h4,h5⟩:=S.dj.jJ h3 h2.rH;exact⟨⟨h4,h2⟩,h5⟩
theorem ST.TM(S:ST m0 ro m mb e bx aT hp fr lo lh fs f r o h css)(v:Int):ST m0 ro (ag m fr.ao (fr.off+fs.length*6+1) [.i v]) mb e bx aT hp fr lo lh fs {f with pc:=v} r o h css/\To ro m ro (ag m fr.ao (fr.off+fs.length*6+1) [.i v]):=by
 obtain⟨h2,h3⟩:=S.fC.TM S.dj.new v;obtain⟨h4,h5⟩:=S.dj.jJ h3 h2.rH;exact⟨⟨h4,h2⟩,h5⟩
theorem ST.nu(S:ST m0 ro m mb e bx aT hp fr lo lh fs f r o h css)(i:Nat)(cs:List Ce):ST m0 ro (ag m mb i cs) mb e (fP bx i cs) aT hp fr lo lh fs f r o h css/\To ro m ro (ag m mb i cs):=by
 obtain⟨h2,h3⟩:=S.dj.nu i cs;exact⟨⟨h2,S.fC.dT (cJ.ag (p:=λk=>k=1) S.dj.new S.dj.Tz i cs) λk hk=>ab⟩,h3⟩
theorem ST.gU(S:ST m0 ro m mb e bx aT hp fr lo lh fs f r o h css)(hc:HC ro m bG m'){Ac:Sl}{VA:List aR}(hh:dk m0.size bG m' Ac VA):ST m0 bG m' mb e bx aT Ac fr lo VA fs f r o h css/\To ro m bG m':=by
 obtain⟨h2,h3⟩:=S.dj.gU hc hh;exact⟨⟨h2,S.fC.dT hc λk hk=>ab⟩,h3⟩
theorem ST.Kr(S:ST m0 ro m mb e bx aT hp fr lo lh fs f r o h css)(hc:cJ (λk=>k=2) ro m bG m'){Fy:Sl}{Zc:List Int}(hh:fB bG m' au 1 2 Fy (Zc.map Ce.i)):ST m0 bG m' mb e bx Fy hp fr Zc lh fs f r o h css/\To ro m bG m':=by
 obtain⟨h2,h3⟩:=S.dj.Kr hc hh;exact⟨⟨h2,S.fC.dT hc λk hk=>ab⟩,h3⟩
end
theorem cJ.Sc{ro bG:Nat->Nat}{m m':ah}(h:To ro m bG m'){b:Nat}(hb:b<m.size)(h0:ro b=0):da [b] m m':=h.cg (by simpa using⟨hb,h0⟩)
abbrev SB(d p:Sl)(s:St)(aT hp fr:Sl):List Ce:=[.s d,.s p,.i s.bT,.i s.value,.i s.be,.i s.cV,.s aT,.s hp,.s fr]
def xe(m0:ah)(ro:Nat->Nat)(m:ah)(mb:Nat)(d p:Sl)(s:St)(m':ah):Prop:=
 ∃bG aT hp fr,BE m0 bG m' mb a9 (SB d p s aT hp fr) aT hp fr s.aT s.heap s.ai/\To ro m bG m'
theorem xe.from{m0:ah}{ro ZU:Nat->Nat}{m m1 m':ah}{mb:Nat}{d p:Sl}{s:St}(h:xe m0 ZU m1 mb d p s m')(ht:To ro m ZU m1):xe m0 ro m mb d p s m':=
 let⟨bG,aT,hp,fr,h1,h2⟩:=h
 ⟨bG,aT,hp,fr,h1,ht.trans h2⟩
section
variable{m0:ah}{ro:Nat->Nat}{m:ah}{mb:Nat}{d p aT hp fr:Sl}{s:St}{fs:List aM}{f:aM}{r o h:Sl}{css:List (List Ce)}
theorem gV(S:ST m0 ro m mb a9 (SB d p s aT hp fr) aT hp fr s.aT s.heap fs f r o h css)(Dr:fs.length<=100000)(v:Int):
 aD Tryz.prog 150 [vp mb 0,vi v] m λw m'=>ST m0 ro m' mb a9 (SB d p s aT hp fr) aT hp fr s.aT s.heap fs {f with pc:=v} r o h css/\To ro m ro m':=by
 apply mw (mb,0)
 have hg:ad m mb 8=some (Sl.v fr):=S.dj.box.bH 8
 have gL:=S.fC.EQ
 have e:bS ((fr.len:Int) -1)=(fs.length:Int):=by rw[aF ab ab];omega
 have e2:Int.toNat (fs.length:Int)=fs.length:=ab
 refine⟨fr,hg,fr,hg,?_⟩
 rw[e,e2]
 exact⟨ab,ab,S.fC.ajG,S.TM v⟩
theorem zn(S:ST m0 ro m mb a9 (SB d p s aT hp fr) aT hp fr s.aT s.heap fs f r o h css)(Dr:fs.length<=100000){i:Int}(h0:0<=i)(h1:i<f.an.length)(h2:i<f.aL.length)(w:Int)(Jz:0<=f.pc/\f.pc<=100000):
 aD Tryz.prog 143 [vp mb 0,vi i,vi w] m λ_ m'=>ST m0 ro m' mb a9 (SB d p s aT hp fr) aT hp fr s.aT s.heap fs (aM.put {f with pc:=f.pc+1} i w 0) r o h css/\To ro m ro m':=by
 apply rU (mb,0)
 simp -zeta only[aw,ax]
 have hg:ad m mb 8=some (Sl.v fr):=S.dj.box.bH 8
 have gL:=S.fC.EQ
 have e:bS ((fr.len:Int) -1)=(fs.length:Int):=by rw[aF ab ab];omega
 have e2:Int.toNat (fs.length:Int)=fs.length:=ab
 obtain⟨g0,g1,g2,g3,g4,g5⟩:=S.fC.iu
 have nL:r.len=f.an.length:=by have:=S.fC.an.len;simp at this;omega
 have If:o.len=f.aL.length:=by have:=S.fC.aL.len;simp at this;omega
 refine⟨fr,hg,fr,hg,?_⟩
 rw[e,e2]
 refine⟨ab,ab,_,g0,_,g1,_,g2,r,g3,o,g4,h,g5,?_⟩
 intro m1 m2
 have dA:af m m2:=((af.av m).aC _).ag (aFR _) _ _
 have s2:m2.size=m.size+1:=by simp[m2,m1,aq]
 have zy:ro m.size=0:=S.dj.new _ (aFR _)
 obtain⟨S2,t2⟩:=S.ext dA
 clear_value m2
 refine⟨h0,ab,S2.fC.an.VK h0 h1,?_⟩
 intro m3
 obtain⟨S3,t3⟩:=S2.Hi h0 h1 w
 have s3:m3.size=m2.size:=aq _ _ _ _
 refine⟨t3.Sc (show m.size<m2.size by omega) zy,h0,ab,S3.fC.aL.VK h0 h2,?_⟩
 intro m4
 obtain⟨S4,t4⟩:=S3.zm h0 (by simpa using h2) 0
 have s4:m4.size=m3.size:=aq _ _ _ _
 have e3:bS (f.pc+1)=f.pc+1:=aF ab ab
 rw[e3]
 refine⟨t4.Sc (show m.size<m3.size by omega) zy,(gV S4 Dr (f.pc+1)).mono ?_⟩
 rintro _ m5 ⟨S5,t5⟩
 exact⟨t5.Sc (show m.size<m4.size by omega) zy,S5,((t2.trans t3).trans t4).trans t5⟩
theorem ry(S:ST m0 ro m mb a9 (SB d p s aT hp fr) aT hp fr s.aT s.heap fs f r o h css)(Dr:fs.length<=100000){i:Int}(h0:0<=i)(h1:i<f.an.length)(h2:i<f.aL.length)(w:Int):
 aD Tryz.prog 153 [vp mb 0,vi i,vi w] m λ_ m'=>ST m0 ro m' mb a9 (SB d p s aT hp fr) aT hp fr s.aT s.heap fs (f.put i w (gF w)) r o h css/\To ro m ro m':=by
 apply rV (mb,0)
 simp -zeta only[aw,ax]
 have hg:ad m mb 8=some (Sl.v fr):=S.dj.box.bH 8
 have gL:=S.fC.EQ
 have e:bS ((fr.len:Int) -1)=(fs.length:Int):=by rw[aF ab ab];omega
 have e2:Int.toNat (fs.length:Int)=fs.length:=ab
 obtain⟨g0,g1,g2,g3,g4,g5⟩:=S.fC.iu
 have nL:r.len=f.an.length:=by have:=S.fC.an.len;simp at this;omega
 have If:o.len=f.aL.length:=by have:=S.fC.aL.len;simp at this;omega
 refine⟨fr,hg,fr,hg,?_⟩
 rw[e,e2]
 refine⟨ab,ab,_,g0,_,g1,_,g2,r,g3,o,g4,h,g5,?_⟩
 intro m1 m2
 have dA:af m m2:=((af.av m).aC _).ag (aFR _) _ _
 have s2:m2.size=m.size+1:=by simp[m2,m1,aq]
 have zy:ro m.size=0:=S.dj.new _ (aFR _)
 obtain⟨S2,t2⟩:=S.ext dA
 clear_value m2
 refine⟨h0,ab,S2.fC.an.VK h0 h1,?_⟩
 intro m3
 obtain⟨S3,t3⟩:=S2.Hi h0 h1 w
 have s3:m3.size=m2.size:=aq _ _ _ _
 refine⟨t3.Sc (show m.size<m2.size by omega) zy,h0,ab,S3.fC.aL.VK h0 h2,?_⟩
 intro m4
 obtain⟨S4,t4⟩:=S3.zm h0 (by simpa using h2) 0
 have s4:m4.size=m3.size:=aq _ _ _ _
 refine⟨t4.Sc (show m.size<m3.size by omega) zy,(cG _ _).mono ?_⟩
 rintro _ m5 ⟨b,rfl,hb,LF⟩
 obtain⟨S5,t5⟩:=S4.ext LF
 have s5:=LF.size
 refine⟨t5.Sc (show m.size<m4.size by omega) zy,b,rfl,λnH=>?_,λmF=>?_⟩
 ·refine⟨h0,ab,S5.fC.aL.VK h0 (by simpa[iK]using h2),?_⟩
  intro m6
  obtain⟨S6,t6⟩:=S5.zm h0 (by simpa[iK]using h2) 1
  refine⟨t6.Sc (show m.size<m5.size by omega) zy,?_,(((t2.trans t3).trans t4).trans t5).trans t6⟩
  have e5:fx (fx f.aL i 0) i 1=fx f.aL i 1:=by simp[fx,List.set_set]
  have e6:gF w=1:=by rw[gF,aFW (hb.1 nH)]
  simp only[e5]at S6
  rw[e6];exact S6
 ·refine⟨?_,((t2.trans t3).trans t4).trans t5⟩
  have e6:gF w=0:=by rw[gF,aFS (fb hb mF)]
  rw[e6];exact S5
theorem zX:∀(ws:List Int)(g:List aR),(jf g ws).length=g.length
 |[],g=>rfl
 |w::ws,g=>by rw[jf,zX ws];simp[nl]
theorem KT:∀(ws:List Int)(g:List aR)(w:Int),jf g (ws++[w])=nl (jf g ws) w
 |[],g,w=>rfl
 |v::ws,g,w=>by rw[aGg,jf,KT ws,jf]
theorem H9:∀(ws:List Int)(g:List aR)(n:Int),(∀c∈g,-10<=c.aG/\c.aG<=n)->∀c∈jf g ws,-10<=c.aG/\c.aG<=n+ws.length
 |[],g,n,h,c,hc=>by have:=h c hc;simp;omega
 |w::ws,g,n,h,c,hc=>by
  have:=H9 ws (nl g w) (n+1) (λd hd=>by
   rcases oI hd with rfl|⟨b,_,hb⟩
   ·simp only[aK];cases hg:g[ix w]? with
    |none=>
     unfold nl at hd;rw[aHs (List.getElem?_eq_none_iff.1 hg)]at hd;have:=h _ hd;simp only[aK,hg]at this⊢;omega
    |some x=>have:=h x (ak hg);simp only[aHp];omega
   ·have:=h d (ak hb);omega) c hc
  simp only[aF5];omega
theorem BL(L:BE m0 ro m mb a9 (SB d p s aT hp fr) aT hp fr s.aT s.heap fs){ws:Sl}{l:List Int}(hw:aj m ws l)(VO:l≠[]->ro ws.ao=0)(rI:∀w∈l,1000<=w/\ix w<s.heap.length)(hcb:∀c∈s.heap,-10<=c.aG/\c.aG<=999999)(xp:l.length<=1000000)(Up:s.heap.length<=2000000000):
 aD Tryz.prog 149 [vp mb 0,Sl.v ws] m λ_ m'=>dk m0.size ro m' hp (jf s.heap l)/\cJ (λk=>k=3) ro m ro m':=by
 apply tm (mb,0)
 have uB:=hw.len
 have hg:ad m mb 7=some (Sl.v hp):=L.box.bH 7
 refine dg (n:=l.length) ab (λk m'=>dk m0.size ro m' hp (jf s.heap (l.take k))/\cJ (λk=>k=3) ro m ro m') ⟨L.heap,cJ.av _ L.new⟩ ?_
 rintro k m1 I μ hk ⟨hh,hc⟩ next
 refine⟨λh1=>?_,λh1=>?_⟩
 ·simp only[aFP]at h1
  obtain⟨x,hx⟩:=ae (l:=l) (k:=k) ab
  obtain⟨dF,dA⟩:=rI x (ak hx)
  have cx:l≠[]:=λe=>by rw[e]at hx;simp at hx
  have SD:aj m1 ws l:=mq hw λ_=>hc.eg _ (nt hw cx) (by rw[VO cx];decide)
  have hg1:ad m1 mb 7=some (Sl.v hp):=by rw[aA (hc.eg _ L.box.lt (by rw[L.Tz];decide))];exact hg
  have hlen:=hh.len
  rw[zX]at hlen
  obtain⟨c,pw⟩:=ae (l:=jf s.heap (l.take k)) (k:=ix x) (by rw[zX];exact dA)
  obtain⟨f1,g0,_⟩:=hh.bH pw
  have Uo:ix x=(x -1000).toNat:=rfl
  have e4:bS (x -1000)=x -1000:=aF ab ab
  have aCt:=H9 (l.take k) s.heap 999999 hcb c (ak pw)
  have Pf:((l.take k).length:Int)<=1000000:=bg
  have e5:bS (c.aG+1)=c.aG+1:=aF ab ab
  refine⟨ab,ab,x,by simpa using SD.aE hx,hp,hg1,hp,hg1,?_⟩
  rw[e4,<-Uo]
  refine⟨ab,ab,c.aG,g0,ab,ab,hh.wr (o:=0) (by rw[zX];exact dA) aO,?_⟩
  rw[e5]
  obtain⟨hh2,ME⟩:=hh.EP hc.new pw (c.aG+1)
  refine next ab _ ⟨?_,hc.trans ME⟩
  rw[bn hx,KT]
  have:aK (jf s.heap (l.take k)) x=c:=by simp[aK,pw]
  unfold nl
  rw[this];exact hh2
 ·simp only[aFQ]at h1
  rw[bL ab]at hh
  exact⟨hh,hc⟩
theorem zo(L:BE m0 ro m mb a9 (SB d p s aT hp fr) aT hp fr s.aT s.heap fs){w:Int}(hl:gJ s.heap w){e:Nat->Int}(hI:dZ s.heap e)(Up:s.heap.length<=2000000000):
 aD Tryz.prog 176 [vp mb 0,vi w] m λv m'=>∃b:Bool,v=vb b/\(b=true<->(aK s.heap w).aG=1)/\cJ (λk=>k=3) ro m ro m'/\(b=true->dk m0.size ro m' hp s.heap)/\(b=false->dk m0.size ro m' hp (jf (eE s.heap w) (pG (aK s.heap w).aB))):=by
 apply rW (mb,0)
 obtain⟨pw,qB⟩:=bE hl
 have cA:=ap pw
 have hlen:=L.heap.len
 have Uo:ix w=(w -1000).toNat:=rfl
 have QC:=hl.1
 have e4:bS (w -1000)=w -1000:=aF ab ab
 have hg:ad m mb 7=some (Sl.v hp):=L.box.bH 7
 have hmx:=(hI.cell _ (ak pw)).hi
 have e5:bS ((aK s.heap w).aG -1)=(aK s.heap w).aG -1:=aF ab ab
 obtain⟨f0,g0,g1,g2,gf,gr⟩:=L.heap.bH pw
 rw[e4,<-Uo]
 refine⟨hp,hg,ab,ab,_,g0,λh1=>?_,λh1=>?_⟩
 ·exact⟨true,rfl,by simpa using h1,cJ.av _ L.new,λ_=>L.heap,λh=>by simp at h⟩
 ·simp only[aFU]at h1
  refine⟨hp,hg,hp,hg,ab,ab,_,g0,ab,ab,L.heap.wr (o:=0) cA aO,?_⟩
  rw[e5]
  intro m1
  obtain⟨hh1,c1⟩:=L.heap.EP L.new pw ((aK s.heap w).aG -1)
  obtain⟨f1,k0,k1,k2,kf,kr⟩:=hh1.bH (dw pw)
  obtain⟨L1,t1⟩:=L.gU (c1.mono λk hk=>Or.inl hk) hh1
  have gL:=(hI.cell _ (ak pw)).fl
  refine⟨hp,L1.box.bH 7,ab,ab,f1,k2,?_⟩
  refine(mo kf (by simp only[];omega)).then (by have:=rh (aK s.heap w).aB;simp only[];omega) λps m2 o2 i2 h2=>⟨ps,rfl,?_⟩
  obtain⟨L2,t2⟩:=L1.ext h2
  have asB:pG (aK s.heap w).aB≠[]->ro ps.ao=0:=λcx=>by
   rcases o2.ao with e|e
   ·subst e;have:=i2.len;simp at this;exact absurd (List.length_eq_zero_iff.1 this.symm) cx
   ·exact c1.new _ e
  have:=rh (aK s.heap w).aB
  refine(BL (s:={s with heap:=eE s.heap w}) (fs:=fs) L2 i2 asB (λv hv=>?_) (λc hc=>?_) (by simp only[];omega) (by simpa[eE]using Up)).mono ?_
  ·obtain⟨Y5,JA⟩:=lE.1 hv
   have iO:=hI.field (ak pw) Y5 JA
   exact⟨JA,by simpa[eE]using ap (bE iO).1⟩
  ·rcases oI hc with rfl|⟨b,_,hb⟩
   ·simp only[];omega
   ·have:=hI.cell c (ak hb);have h5:=this.lo;have h6:=this.hi;omega
  ·rintro _ m3 ⟨hh3,c3⟩
   exact⟨false,rfl,by simpa using h1,(c1.trans (cJ.dS _ h2 c1.new)).trans c3,λh=>by simp at h,λ_=>hh3⟩
end
end
section
def OE(ro:Nat->Nat)(m:ah)(bs:List Nat):Prop:=∀b∈bs,b<m.size/\ro b=0
theorem OE.to{p:Nat->Prop}{ro bG:Nat->Nat}{m m':ah}{bs:List Nat}(h:OE ro m bs)(t:cJ p ro m bG m'):OE bG m' bs:=λb hb=>⟨aFY (h b hb).1 t.size,by rw[t.gG b (h b hb).1];exact(h b hb).2⟩
theorem cJ.eS{ro bG:Nat->Nat}{m m':ah}(t:To ro m bG m'){bs:List Nat}(h:OE ro m bs):da bs m m':=t.cg h
theorem OE.IC{ro:Nat->Nat}{m m1 m2:ah}(hn:∀b,m.size<=b->ro b=0)(h1:m1.size=m.size+1)(h2:m2.size=m.size+2):OE ro m2 [m1.size,m.size]:=λb hb=>by
 simp at hb;rcases hb with rfl|rfl
 ·exact⟨ab,hn _ ab⟩
 ·exact⟨ab,hn _ ab⟩
noncomputable def vJ (s:St) (fs:List aM) (f:aM) (x:Instr) (t:Int):St:=
 open Classical in
 if x.bA≠0/\aE f.aQ (x.bA -1)≠0 then
  {s with heap:=s.heap.set (ix (aE f.aQ (x.bA -1))) ⟨1,t,cp f x.args⟩,ai:=fs++[aM.put {f with pc:=f.pc+1,aQ:=fx f.aQ (x.bA -1) 0} x.dst (aE f.aQ (x.bA -1)) 1]}
 else{s with heap:=jQ s.heap (dD s.heap) ⟨1,t,cp f x.args⟩,ai:=fs++[aM.put {f with pc:=f.pc+1} x.dst (1000+dD s.heap) 1]}
section
variable{m0:ah}{ro:Nat->Nat}{m:ah}{mb:Nat}{d p aT hp fr:Sl}{s:St}{fs:List aM}{f:aM}{r o h:Sl}{css:List (List Ce)}
theorem ST.KU{e:Nat}{bx:List Ce}{lo:List Int}{lh:List aR}(S:ST m0 ro m mb e bx aT hp fr lo lh fs f r o h css)(hl:f.an.length<=1000000):aj m r f.an:=S.fC.an.oX ab
theorem ST.Xm{e:Nat}{bx:List Ce}{lo:List Int}{lh:List aR}(S:ST m0 ro m mb e bx aT hp fr lo lh fs f r o h css)(hl:f.aL.length<=1000000):aj m o f.aL:=S.fC.aL.oX ab
theorem ST.Xn{e:Nat}{bx:List Ce}{lo:List Int}{lh:List aR}(S:ST m0 ro m mb e bx aT hp fr lo lh fs f r o h css)(hl:f.aQ.length<=1000000):aj m h f.aQ:=S.fC.aQ.oX ab
theorem sU(S:ST m0 ro m mb a9 (SB d p s aT hp fr) aT hp fr s.aT s.heap fs f r o h css){x:Instr}{a j:Sl}(ha:aj m0 a x.args)(fV:∀y∈x.args,0<=y/\y<f.an.length)(jK:x.args.length<=4)(t:Int)
 (hlen:f.an.length=f.aL.length/\f.aQ.length=f.aL.length/\f.aL.length<=2000)(nG:0<=x.dst/\x.dst<f.aL.length)(ak9:0<=x.bA/\x.bA<=f.aQ.length)(Jz:0<=f.pc/\f.pc<=100000)(Dr:fs.length<=100000)(Up:s.heap.length<=1000000000)
 (aml:∀w∈f.aQ,w≠0->1000<=w/\ix w<s.heap.length):
 aD Tryz.prog 145 [vp mb 0,fv f r o h,xv x a j,vi t] m λ_ m'=>xe m0 ro m mb d p (vJ s fs f x t) m':=by
 apply pC (mb,0)
 simp -zeta only[aw,ax]
 intro m1 m2
 have dA:af m m2:=((af.av m).aC _).aC _
 have s1:m1.size=m.size+1:=by simp[m1]
 have s2:m2.size=m.size+2:=by simp[m2,s1]
 have B2:=OE.IC S.dj.new s1 s2
 obtain⟨S2,t2⟩:=S.ext dA
 clear_value m2
 have amm:h.len=f.aQ.length:=by have:=S.fC.aQ.len;simp at this;omega
 have g7:∀{ro m f},ST m0 ro m mb a9 (SB d p s aT hp fr) aT hp fr s.aT s.heap fs f r o h css->ad m mb 7=some (Sl.v hp):=λS=>S.dj.box.bH 7
 refine⟨hp,g7 S2,(ET (S2.dj.heap.cells ab)).mono ?_⟩
 rintro _ m3 ⟨rfl,mL⟩
 obtain⟨S3,t3⟩:=S2.ext mL
 have B3:=B2.to t3
 refine⟨t3.eS B2,_,rfl,λat0 m'=>∃(a0:Nat)(f':aM),at0=a0/\ST m0 ro m' mb a9 (SB d p s aT hp fr) aT hp fr s.aT s.heap fs f' r o h css/\To ro m ro m'/\OE ro m' [m1.size,m.size]/\a0<=s.heap.length/\
  f'.an=f.an/\f'.aL=f.aL/\f'.pc=f.pc/\vJ s fs f x t={s with heap:=jQ s.heap a0 ⟨1,t,cp f x.args⟩,ai:=fs++[aM.put {f' with pc:=f.pc+1} x.dst (1000+a0) 1]},?_,?_⟩
 ·have none:¬(x.bA≠0/\aE f.aQ (x.bA -1)≠0)->∃(a0:Nat)(f':aM),((dD s.heap:Nat):Int)=a0/\ST m0 ro m3 mb a9 (SB d p s aT hp fr) aT hp fr s.aT s.heap fs f' r o h css/\To ro m ro m3/\OE ro m3 [m1.size,m.size]/\a0<=s.heap.length/\
   f'.an=f.an/\f'.aL=f.aL/\f'.pc=f.pc/\vJ s fs f x t={s with heap:=jQ s.heap a0 ⟨1,t,cp f x.args⟩,ai:=fs++[aM.put {f' with pc:=f.pc+1} x.dst (1000+a0) 1]}:=λLO=>
   ⟨_,f,rfl,S3,t2.trans t3,B3,um _,rfl,rfl,rfl,by rw[vJ,aFS LO]⟩
  refine⟨λh1=>?_,λh1=>none λhh=>by simp at h1;omega⟩
  simp at h1
  have e1:bS (x.bA -1)=x.bA -1:=aF ab ab
  rw[e1]
  have V2:0<=x.bA -1/\x.bA -1<f.aQ.length:=ab
  have gh:=(S3.Xn ab).GM V2.1 V2.2
  refine⟨ab,ab,_,gh,λh2=>?_,λh2=>none λhh=>by simp at h2;exact hh.2 h2⟩
  simp at h2
  obtain⟨SD,Pq⟩:=aml _ (fI V2.1 V2.2) h2
  refine⟨ab,ab,_,gh,ab,ab,S3.fC.aQ.VK V2.1 V2.2,?_⟩
  intro m4
  obtain⟨S4,t4⟩:=S3.ER V2.1 V2.2 0
  have Uo:ix (aE f.aQ (x.bA -1))=(aE f.aQ (x.bA -1) -1000).toNat:=rfl
  have e2:bS (aE f.aQ (x.bA -1) -1000)=((ix (aE f.aQ (x.bA -1)):Nat):Int):=by rw[aF ab ab];omega
  refine⟨t4.eS B3,ix (aE f.aQ (x.bA -1)),_,e2,S4,(t2.trans t3).trans t4,B3.to t4,ab,rfl,rfl,rfl,?_⟩
  rw[vJ,aFW ⟨ab,h2⟩,jQ,aFS ab,fD SD]
 ·rintro at0 m4 ⟨a0,f',rfl,S4,t4,B4,pP,er,eo,ep,ec⟩
  have kK:af m0 m4:=S4.dj.bN
  have Sz:aj m4 r f.an:=er▸S4.KU (by rw[er];omega)
  refine⟨hp,g7 S4,(pK (f:=f) Sz (ha.ext kK) fV ab).mono ?_⟩
  rintro _ m5 ⟨ws,rfl,ow,LF⟩
  obtain⟨S5,t5⟩:=S4.ext LF
  have B5:=B4.to t5
  have uB:(cp f x.args).length<=1000000000:=by simp[cp];omega
  have iw:aj m5 ws (cp f x.args):=aj.fQ ow ab
  refine⟨t5.eS B4,ws,rfl,by rw[g7 S5,g7 S4],(Mz S5.dj.heap S5.dj.new pP t iw ab uB S5.dj.bN.size).mono ?_⟩
  rintro _ m6 ⟨ro6,hp6,rfl,hh6,c6⟩
  obtain⟨S6,t6⟩:=S5.gU c6 hh6
  have B6:=B5.to t6
  refine⟨t6.eS B5,hp6,rfl,S6.dj.vX (i:=7) az,?_⟩
  intro m7
  obtain⟨S7,t7⟩:=S6.nu 7 [.s hp6]
  have B7:=B6.to t7
  have e3:bS (1000+(a0:Int))=1000+(a0:Int):=aF ab ab
  have e4:bS (f.pc+1)=f.pc+1:=aF ab ab
  rw[e3,e4]
  refine⟨t7.eS B6,(ry (s:={s with heap:=jQ s.heap a0 ⟨1,t,cp f x.args⟩}) S7 Dr nG.1 (by rw[er];omega) (by rw[eo];omega) (1000+a0)).mono ?_⟩
  rintro _ m8 ⟨S8,t8⟩
  have B8:=B7.to t8
  refine⟨t8.eS B7,(gV (s:={s with heap:=jQ s.heap a0 ⟨1,t,cp f x.args⟩}) S8 Dr (f.pc+1)).mono ?_⟩
  rintro _ m9 ⟨S9,t9⟩
  refine⟨t9.eS B8,ro6,aT,hp6,fr,?_,((((t4.trans t5).trans t6).trans t7).trans t8).trans t9⟩
  rw[ec]
  have e5:gF (1000+(a0:Int))=1:=by rw[gF,aFW ab]
  have:=S9.dj
  rw[e5]at this
  exact this
theorem EV:∀(rs aL:List Int)(r:Int),dE aL (rs++[r])=fx (dE aL rs) r (aE (dE aL rs) r+1)
 |[],aL,r=>rfl
 |q::rs,aL,r=>by rw[aGg,dE,EV rs,dE]
theorem Qj{l:List Int}{i n:Int}(h:∀o∈l,0<=o/\o<=n)(hn:0<=n):0<=aE l i/\aE l i<=n:=by
 rcases aF1 i.toNat l.length with h1|h1
 ·obtain⟨y,hy⟩:=ae h1;rw[Ow hy];exact h y (ak hy)
 ·rw[aE,aGJ,aGc h1];simp;omega
theorem BM:∀(rs aL:List Int)(n:Int),0<=n->(∀o∈aL,0<=o/\o<=n)->∀o∈dE aL rs,0<=o/\o<=n+rs.length
 |[],aL,n,hn,h,o,ho=>by have:=h o ho;simp;omega
 |r::rs,aL,n,hn,h,o,ho=>by
  have:=BM rs (fx aL r (aE aL r+1)) (n+1) ab (λq hq=>by
   have:=Qj (i:=r) h hn;rcases qX hq with hq|hq
   ·omega
   ·have:=h q hq;omega) o ho
  simp only[aF5];omega
noncomputable def KV (s:St) (fs:List aM) (f:aM) (x:Instr):St:=
 open Classical in
 if(aK s.heap (aE f.an (aE x.args 0))).aG=1/\x.op=17 then
  {s with heap:=s.heap.set (ix (aE f.an (aE x.args 0))) ⟨-1,0,eF (aK s.heap (aE f.an (aE x.args 0))).aB.length⟩,ai:=fs++[{f with aL:=dE f.aL (x.args.drop 1),pc:=f.pc+1,aQ:=fx f.aQ (aE x.args 0) (aE f.an (aE x.args 0))}]}
 else{s with heap:=apart s.heap (aE f.an (aE x.args 0)),ai:=fs++[{f with aL:=dE f.aL (x.args.drop 1),pc:=f.pc+1}]}
theorem KW(n:Nat):kL [.i (0:Int)] n=(eF n).map Ce.i:=by
 induction n with
 |zero=>rfl
 |succ n ih=>
  have:kL [.i (0:Int)] (n+1)=.i 0::kL [.i (0:Int)] n:=by simp[kL,aHg]
  rw[this,ih];simp[eF,aHg]
theorem oK{m:ah}{n:Int}(h0:0<=n)(h1:n<=1000000):aD Tryz.prog 108 [vi n] m λv m'=>v=Sl.v (.mk m.size 0 n.toNat n.toNat)/\m'=m.push (.cells (aU ((eF n.toNat).map Ce.i)) au):=by
 apply Gb;refine⟨h0,aGw _,ab,ab,?_⟩;rw[KW];exact⟨rfl,rfl⟩
theorem UX{m:ah}(n:Nat):gQ m (m.push (.cells (aU ((eF n).map Ce.i)) au)) au 1 (.mk m.size 0 n n) ((eF n).map Ce.i):=gQ.new (af.av m) au 1 _ n (by simp[jI])
theorem Hj(S:ST m0 ro m mb a9 (SB d p s aT hp fr) aT hp fr s.aT s.heap fs f r o h css){x:Instr}{a j:Sl}(ha:aj m0 a x.args)(fV:∀y∈x.args,0<=y/\y<f.an.length)(jK:1<=x.args.length/\x.args.length<=4)(pu:x.op=16\/x.op=17)
 (hlen:f.an.length=f.aL.length/\f.aQ.length=f.aL.length/\f.aL.length<=2000)(Jz:0<=f.pc/\f.pc<=100000)(Dr:fs.length<=100000)(Up:s.heap.length<=1000000000)(pN:∀q∈f.aL,0<=q/\q<=999999)
 (iO:gJ s.heap (aE f.an (aE x.args 0))){e:Nat->Int}(hI:dZ s.heap e):
 aD Tryz.prog 152 [vp mb 0,fv f r o h,xv x a j] m λ_ m'=>xe m0 ro m mb d p (KV s fs f x) m':=by
 apply qt (mb,0)
 simp -zeta only[aw,ax]
 intro m1 m2
 have dA:af m m2:=((af.av m).aC _).aC _
 have s1:m1.size=m.size+1:=by simp[m1]
 have s2:m2.size=m.size+2:=by simp[m2,s1]
 have B2:=OE.IC S.dj.new s1 s2
 obtain⟨S2,t2⟩:=S.ext dA
 clear_value m2
 have nL:r.len=f.an.length:=by have:=S.fC.an.len;simp at this;omega
 have If:o.len=f.aL.length:=by have:=S.fC.aL.len;simp at this;omega
 have amm:h.len=f.aQ.length:=by have:=S.fC.aQ.len;simp at this;omega
 have aCu:=ha.len
 have h0:0<=aE x.args 0/\aE x.args 0<f.an.length:=fV _ (fI ab ab)
 have ga:∀{m'},af m0 m'->∀{k:Nat}{y},x.args[k]? =some y->ad m' a.ao (a.off+Int.toNat (k:Int)*1)=some (vi y):=λhx k y hy=>by simpa using(ha.ext hx).aE hy
 refine⟨ab,ab,aE x.args 0,(ha.ext S2.dj.bN).GM ab ab,h0.1,ab,aE f.an (aE x.args 0),(S2.KU ab).GM h0.1 h0.2,?_⟩
 refine⟨λi m'=>∃k:Nat,i=k/\1<=k/\k<=x.args.length/\ST m0 ro m' mb a9 (SB d p s aT hp fr) aT hp fr s.aT s.heap fs {f with aL:=dE f.aL ((x.args.take k).drop 1)} r o h css/\To ro m ro m'/\OE ro m' [m1.size,m.size],λi _=>((x.args.length:Int) -i).toNat,⟨1,rfl,ab,ab,?_,t2,B2⟩,?_⟩
 ·have e1:(x.args.take 1).drop 1=[]:=az
  rw[e1];exact S2
 rintro i m3 ⟨k,rfl,Bj,XO,S3,t3,B3⟩
 have hkb:∀q∈dE f.aL ((x.args.take k).drop 1),0<=q/\q<=1000010:=λq hq=>by
  have:=BM _ f.aL 999999 ab pN q hq;have h3:((x.args.take k).drop 1).length<=4:=bg;omega
 refine⟨λh1=>?_,λh1=>?_⟩
 ·simp only[aFP]at h1
  obtain⟨y,hy⟩:=ae (l:=x.args) (k:=k) ab
  have Ad:=fV y (ak hy)
  have hyo:y<(dE f.aL ((x.args.take k).drop 1)).length:=by rw[sN];omega
  have hb:=Qj (i:=y) hkb ab
  refine⟨ab,ab,y,ga S3.dj.bN hy,ab,ab,y,ga S3.dj.bN hy,Ad.1,ab,_,(S3.Xm (by simp only[sN];omega)).GM Ad.1 hyo,Ad.1,ab,S3.fC.aL.VK Ad.1 hyo,?_⟩
  intro m4
  have e2:bS (aE (dE f.aL ((x.args.take k).drop 1)) y+1)=aE (dE f.aL ((x.args.take k).drop 1)) y+1:=aF ab ab
  obtain⟨S4,t4⟩:=S3.zm Ad.1 hyo (aE (dE f.aL ((x.args.take k).drop 1)) y+1)
  have e3:m4=ag m3 o.ao (o.off+y.toNat*1) [.i (aE (dE f.aL ((x.args.take k).drop 1)) y+1)]:=by simp only[m4,e2]
  clear_value m4
  subst e3
  refine⟨t4.eS B3,?_,?_⟩
  ·rw[iG (k:=k) (n:=x.args.length) ab ab]
   refine⟨k+1,rfl,ab,ab,?_,t3.trans t4,B3.to t4⟩
   have e4:(x.args.take (k+1)).drop 1=(x.args.take k).drop 1++[y]:=by
    rw[bn hy,List.drop_append_of_le_length bg]
   rw[e4,EV]
   exact S4
  ·rw[iG (k:=k) (n:=x.args.length) ab ab]
   show((x.args.length:Int) -((k+1:Nat):Int)).toNat<((x.args.length:Int) -(k:Int)).toNat
   omega
 ·simp only[aFQ]at h1
  have e1:(x.args.take k).drop 1=x.args.drop 1:=by rw[bL ab]
  rw[e1]at S3
  have hwx:=fD iO.1
  obtain⟨pw,qB⟩:=bE iO
  have cA:=ap pw
  have LD:=S3.dj.heap.len
  have e4:bS (f.pc+1)=f.pc+1:=aF ab ab
  have QC:=iO.1
  have Uo:ix (aE f.an (aE x.args 0))=(aE f.an (aE x.args 0) -1000).toNat:=rfl
  have e5:bS (aE f.an (aE x.args 0) -1000)=aE f.an (aE x.args 0) -1000:=aF ab ab
  rw[e4,e5,<-Uo]
  generalize hw:aE f.an (aE x.args 0)=w at*
  have gw:∀{ro m lh ag6 Um},ST m0 ro m mb a9 (SB d p s aT hp fr) aT hp fr s.aT lh fs {f with aL:=ag6,aQ:=Um} r o h css->ad m r.ao (r.off+Int.toNat (aE x.args 0)*1)=some (vi w):=λS=>by rw[<-hw];exact(S.KU (by simp only[];omega)).GM h0.1 h0.2
  refine⟨h0.1,ab,w,gw S3,(zo S3.dj iO hI ab).mono ?_⟩
  rintro _ m4 ⟨b,rfl,hb,c4,asD,asE⟩
  refine⟨(c4.mono λk hk=>by omega:To ro m3 ro m4).eS B3,b,rfl,λnH=>?_,λmF=>?_⟩
  ·have oD:=hb.1 nH
   obtain⟨S4,t4⟩:=S3.gU (c4.mono λk hk=>Or.inl hk) (asD nH)
   have B4:=B3.to t4
   have g7:ad m4 mb 7=some (Sl.v hp):=S4.dj.box.bH 7
   refine⟨λLU=>?_,λLU=>?_⟩
   ·simp at LU
    obtain⟨f0,k0,k1,k2,kf,kr⟩:=S4.dj.heap.bH pw
    have gL:=(hI.cell _ (ak pw)).fl
    have QP:=kf.len
    refine⟨hp,g7,hp,g7,ab,ab,f0,k2,(oK ab ab).mono ?_⟩
    rintro _ m5 ⟨rfl,rfl⟩
    have e6:Int.toNat (f0.len:Int)=(aK s.heap w).aB.length:=ab
    rw[e6]
    have LF:af m4 (m4.push (.cells (aU ((eF (aK s.heap w).aB.length).map Ce.i)) au)):=af.push _ _
    have oz:=UX (m:=m4) (aK s.heap w).aB.length
    obtain⟨S5,t5⟩:=S4.ext LF
    have B5:=B4.to t5
    have QZ:ro m4.size=0:=S4.dj.new _ (aFR _)
    generalize m4.push (.cells (aU ((eF (aK s.heap w).aB.length).map Ce.i)) au)=m5 at*
    obtain⟨hh6,c6⟩:=S5.dj.heap.setCell S5.dj.new cA (-1) 0 (f:=.mk m4.size 0 _ _) (aj.fQ oz (by rw[jI];omega)) (FOk.of S4.dj.heap (λh0=>LF.same _ (S4.dj.heap.ao h0).2) (λ_=>oz) (λ_=>QZ) S4.dj.bN.size)
    refine⟨t5.eS B4,_,rfl,LF.cr g7,ab,ab,S5.dj.heap.wr (o:=0) cA aO,?_⟩
    intro m6
    obtain⟨S6,t6⟩:=S5.gU (c6.mono λk hk=>Or.inl hk) hh6
    have B6:=B5.to t6
    refine⟨t6.eS B5,h0.1,ab,w,gw S6,h0.1,ab,S6.fC.aQ.VK h0.1 (by simp only[];omega),?_⟩
    intro m7
    obtain⟨S7,t7⟩:=S6.ER h0.1 (by simp only[];omega) w
    have B7:=B6.to t7
    refine⟨t7.eS B6,(gV (s:={s with heap:=s.heap.set (ix w) ⟨-1,0,eF (aK s.heap w).aB.length⟩}) S7 Dr (f.pc+1)).mono ?_⟩
    rintro _ m8 ⟨S8,t8⟩
    refine⟨t8.eS B7,ro,aT,hp,fr,?_,(((((t3.trans t4).trans t5).trans t6).trans t7).trans t8)⟩
    rw[KV,hw,aFW ⟨oD,LU⟩]
    exact S8.dj
   ·simp at LU
    refine⟨hp,g7,?_⟩
    intro m5
    have LF:af m4 m5:=(af.av m4).aC _
    obtain⟨S5,t5⟩:=S4.ext LF
    have B5:=B4.to t5
    clear_value m5
    refine⟨ab,ab,S5.dj.heap.wr (o:=0) cA aO,?_⟩
    intro m6
    obtain⟨hh6,c6⟩:=S5.dj.heap.setCell S5.dj.new cA 0 0 (f:=.mk m4.size 0 0 0) (l:=[]) ⟨rfl,az,az,az⟩ (λcx=>absurd rfl cx)
    obtain⟨S6,t6⟩:=S5.gU (c6.mono λk hk=>Or.inl hk) hh6
    have B6:=B5.to t6
    refine⟨t6.eS B5,hp,S6.dj.box.bH 7,(vI (S6.dj.heap.cells bg)).mono ?_⟩
    rintro _ m7 ⟨rfl,SR⟩
    obtain⟨S7,t7⟩:=S6.ext SR
    have B7:=B6.to t7
    refine⟨t7.eS B6,_,rfl,S7.dj.vX (i:=7) az,?_⟩
    intro m8
    obtain⟨S7',t7'⟩:=S7.gU (cJ.av _ S7.dj.new) (S7.dj.heap.cut (qU _ _))
    obtain⟨S8,t8⟩:=S7'.nu 7 [.s (hp.cut 0 (iW (s.heap.set (ix w) iv) (s.heap.set (ix w) iv).length) 3)]
    have B8:=B7.to t8
    refine⟨t8.eS B7,(gV (s:={s with heap:=pH (s.heap.set (ix w) iv)}) S8 Dr (f.pc+1)).mono ?_⟩
    rintro _ m9 ⟨S9,t9⟩
    refine⟨t9.eS B8,ro,aT,hp.cut 0 (iW (s.heap.set (ix w) iv) (s.heap.set (ix w) iv).length) 3,fr,?_,((((((t3.trans t4).trans t5).trans t6).trans t7).trans t8).trans t9)⟩
    rw[KV,hw,aFS (λhh=>LU hh.2),Go.Proofs.YtakpkjhmbbfniaaGreat.apart,aFW oD]
    exact S9.dj
  ·have oD:(aK s.heap w).aG≠1:=λe=>by have:=hb.2 e;rw[mF]at this;simp at this
   obtain⟨S4,t4⟩:=S3.gU (c4.mono λk hk=>Or.inl hk) (asE mF)
   have B4:=B3.to t4
   refine(gV (s:={s with heap:=jf (eE s.heap w) (pG (aK s.heap w).aB)}) S4 Dr (f.pc+1)).mono ?_
   rintro _ m5 ⟨S5,t5⟩
   refine⟨t5.eS B4,ro,aT,hp,fr,?_,(t3.trans t4).trans t5⟩
   rw[KV,hw,aFS (λhh=>oD hh.1),Go.Proofs.YtakpkjhmbbfniaaGreat.apart,aFS oD]
   exact S5.dj
end
end
def Hk(w:Int):Prop:=-9223372036854775808<=w/\w<=9223372036854775807
def UY(h:List aR):Prop:=∀c∈h,∀w∈c.aB,Hk w
theorem rB{M:ah}{b n:Nat}{f:Nat->Int}(B:bK M b au ((qA n f).map Ce.i)){a:Nat}(h:a<n):ad M b a=some (vi (f a)):=by
 rw[B.bH a,aGb,sT h];rfl
theorem Hl{M:ah}{b n:Nat}{f:Nat->Int}(B:bK M b au ((qA n f).map Ce.i))(a:Nat)(v:Int):bK (ag M b a [.i v]) b au ((qA n (λx=>if x=a then v else f x)).map Ce.i):=by
 have:=B.ag (m:=M) (o:=a) (r:=[.i v]);rw[zd,TL]at this;exact this
theorem Nr{M:ah}{b n:Nat}{f:Nat->Int}(B:bK M b au ((qA n f).map Ce.i)){a:Nat}(h:a<n):dW M b a 1:=B.dW (by simp[lL];omega)
theorem OF{M:ah}{b n:Nat}{f:Nat->Int}(B:bK M b au ((qA n f).map Ce.i))(h:n<=9223372036854775807):aj M (.mk b 0 n n) (qA n f):=
 ⟨by simp[lL],aFR _,h,λk x hk=>⟨[.i x],rfl,λi c hc=>by
  have sa:k<n:=by have:=ap hk;rwa[lL]at this
  rw[sT sa]at hk;simp at hk;cases i with
  |zero=>simp at hc;subst hc;have:=rB B sa;rw[hk]at this;simpa[Ce.v]using this
  |succ i=>simp at hc⟩⟩
theorem KX(M:ah)(n:Nat):bK (M.push (.cells (aU (kL [.i (0:Int)] n)) au)) M.size au ((qA n (λ_=>0)).map Ce.i):=by
 rw[KW,UW];exact bK.push M _ _
def Xo(f:Nat)(args:List Value)(m:ah)(l:List Int):Prop:=aD Tryz.prog f args m λv m'=>∃s,v=Sl.v s/\aj m' s l/\af m m'
theorem KY{m:ah}{hp:Sl}{h:List aR}(hh:cy m hp h){w:Int}(hw:Hk w):cB Tryz.prog 84 [Sl.v hp,vi w] m (nY h w):=by
 apply DW;refine(aJ _ _ _ _).then λb m1 hb x1=>⟨b,rfl,λh1=>gP (Or.inl (hb.1 h1)) x1,λh1=>?_⟩;refine(ft (cy.ext x1 hh) hw).then λb2 m2 lz x2=>⟨b2,rfl,ez ?_ (x1.trans x2)⟩;rw[lz];exact⟨λh=>Or.inr h,λh=>h.resolve_left λhi=>fb hb h1 hi⟩
theorem EW{m:ah}{hp f:Sl}{h:List aR}{c:aR}(hh:cy m hp h)(hf:aj m f c.aB)(hw:∀w∈c.aB,Hk w):cB Tryz.prog 55 [Sl.v hp,.agg #[vi c.aG,vi c.jW,Sl.v f]] m (mj h c):=by
 apply xW;simp -zeta only[aw,ax];intro m1;have x1:af m m1:=(af.av m).aC _;have s1:m1.size=m.size+1:=by simp[m1]
 clear_value m1;have gL:=hf.len;refine⟨λh1=>bC (λhc=>by have:=hc.fl;simp at h1;omega) x1,λh1=>?_⟩;have Vz:c.aB.length<=3:=by simp at h1;omega
 have hl:∀b∈[m.size],b<m1.size:=bg;refine(aJ _ _ _ _).ay (af.av _) hl λb m2 hb x2 _=>⟨b,rfl,λh2=>bC (λhc=>nb hb h2 ⟨hc.lo,hc.hi⟩) (x1.trans x2),λh2=>?_⟩;have hr:=yb hb h2;refine⟨λh3=>?_,λh3=>?_⟩
 ·have NN:c.aG<1:=by simpa using h3
  refine⟨λh4=>?_,λh4=>bC (λhc=>by simp at h4;exact h4 (hc.vC NN).1) (x1.trans x2)⟩;have h4':c.jW=0:=by simpa using h4
  refine(jE (hf.ext (x1.trans x2))).ay x2 hl λb3 m3 uD x3 _=>⟨b3,rfl,λh5=>?_,λh5=>bC (λhc=>fb uD h5 (hc.vC NN).2.1) ((x1.trans x2).trans x3)⟩;have hz:=uD.1 h5;refine⟨λh6=>gP ⟨Vz,hr.1,hr.2,λ_=>⟨h4',hz,λh7=>by simp at h6;omega⟩,λh7=>ab⟩ ((x1.trans x2).trans x3),λh6=>ez ?_ ((x1.trans x2).trans x3)⟩;have h6':c.aG=0:=by simp at h6;omega
  constructor
  ·intro h7;have:c.aB=[]:=by simp at h7;exact List.length_eq_zero_iff.1 ab
   exact⟨Vz,hr.1,hr.2,λ_=>⟨h4',hz,λ_=>this⟩,λh7=>ab⟩
  ·intro hc;have:=(hc.vC NN).2.2 h6';rw[this]at gL;simp[gL]
 ·have NN:0<c.aG:=by simp at h3;omega
  refine dg (n:=c.aB.length) ab (λk m'=>af m1 m'/\∀w∈c.aB.take k,nY h w) ⟨x2,az⟩ ?_;rintro k m3 I μ hk ⟨x3,hq⟩ next
  refine⟨λh4=>?_,λh4=>?_⟩
  ·simp only[aFP]at h4;obtain⟨w,QT⟩:=ae (l:=c.aB) (k:=k) ab;refine⟨ab,ab,w,by simpa using(hf.ext (x1.trans x3)).aE QT,(KY (cy.ext (x1.trans x3) hh) (hw w (ak QT))).ay x3 hl λb4 m4 xt x4 eU=>⟨b4,rfl,λh5=>bC (λhc=>nb xt h5 ((hc.nM NN).1 w (ak QT))) (x1.trans eU),λh5=>next ab m4 ⟨eU,aZ QT hq (yb xt h5)⟩⟩⟩
  ·simp only[aFQ]at h4;refine(aJ _ _ _ _).ay x3 hl λb4 m4 xt x4 eU=>⟨b4,rfl,ez ?_ (x1.trans eU)⟩;rw[xt];exact⟨λht=>⟨Vz,hr.1,hr.2,λh5=>ab,λ_=>⟨bM ab hq,ht⟩⟩,λhc=>(hc.nM NN).2⟩
theorem Ns{h:List aR}{i:Nat}{c:aR}(hc:h[i]? =some c)(a:Nat):cL (h.take (i+1)) a=cL (h.take i) a+cX c.aB a:=by
 rw[bn hc,sM];simp[cL]
theorem pd{l:List Int}{k:Nat}{w:Int}(hw:l[k]? =some w)(a:Nat):cX (l.take (k+1)) a=cX (l.take k) a+(if w=1000+(a:Int)then 1 else 0):=by
 rw[bn hw,mh];simp[cX]
theorem zY:∀(h:List aR)(a:Nat),(∀c∈h,c.aB.length<=3)->cL h a<=3*h.length
 |[],a,_=>by simp[cL]
 |c::h,a,hc=>by
  have h1:=zY h a λd hd=>hc d (by simp[hd]);have h2:=iS c.aB a;have h3:=hc c az;simp only[cL,aF5];omega
theorem Ia{h:List aR}(hc:∀c∈h,mj h c){c:aR}(hm:c∈h){w:Int}(hw:w∈c.aB):gJ h w\/w<1000:=by
 by_cases hp:0<c.aG
 ·rcases((hc c hm).nM hp).1 w hw with h1|h1
  ·have:=h1.2;exact Or.inr ab
  ·exact Or.inl h1
 ·have:=((hc c hm).vC ab).2.1 w hw;exact Or.inr ab
theorem zp{m:ah}{hp:Sl}{h:List aR}(hh:cy m hp h)(hc:∀c∈h,mj h c)(dp:UY h)(xp:h.length<=1000000000):Xo 56 [Sl.v hp] m (qA h.length (cL h)):=by
 apply DT;have hl:=hh.len;have en:Int.toNat (hp.len:Int)=h.length:=ab;rw[en];refine⟨ab,ab,ab,ab,?_⟩;intro m1;have x1:af m m1:=(af.av m).aC _;have B1:bK m1 m.size au ((qA h.length (λ_=>0)).map Ce.i):=KX m _;clear_value m1;have h3:∀i,∀c∈h.take i,c.aB.length<=3:=λi c hm=>(hc c (aGk hm)).fl;refine dg (n:=h.length) ab (λi m'=>af m m'/\bK m' m.size au ((qA h.length (λa=>cL (h.take i) a)).map Ce.i)) ⟨x1,by simpa[cL]using B1⟩ ?_;rintro i m2 I μ hi ⟨x2,B2⟩ next
 refine⟨λh1=>?_,λh1=>?_⟩
 ·simp only[aFP]at h1;obtain⟨c,hci⟩:=ae (l:=h) (k:=i) ab;have VZ:=ak hci;have pt:=(hc c VZ).fl;refine dg (n:=c.aB.length) ab (λk m'=>af m m'/\bK m' m.size au ((qA h.length (λa=>cL (h.take i) a+cX (c.aB.take k) a)).map Ce.i)) ⟨x2,by simpa[cX]using B2⟩ ?_;rintro k m3 J ν hk ⟨x3,B3⟩ eN;obtain⟨f,hf,_,_,g3⟩:=(cy.ext x3 hh).aE hci;have gL:=hf.len;refine⟨ab,ab,f,by simpa using g3,λh2=>?_,λh2=>?_⟩
  ·simp only[aFP]at h2;obtain⟨w,hw⟩:=ae (l:=c.aB) (k:=k) ab;have Rf:=ak hw;have amn:=dp c VZ w Rf;refine⟨ab,ab,f,by simpa using g3,ab,ab,w,by simpa using hf.aE hw,(ft (cy.ext x3 hh) amn).then λb m4 hb x4=>⟨b,rfl,λh4=>?_,λh4=>?_⟩⟩
   ·have iO:=hb.1 h4;have cA:=ap (bE iO).1;have e1:bS (w -1000)=(ix w:Nat):=by have:=iO.1;have:=amn.2;unfold ix;rw[aF ab ab];omega
    have e2:Int.toNat ((ix w:Nat):Int)=ix w:=ab;have B4:=B3.ext x4;have q1:=zY (h.take i) (ix w) (h3 i);have q2:=iS (c.aB.take k) (ix w);have q3:=oH (h.take i) (ix w);have q4:=fp (c.aB.take k) (ix w);have q5:(h.take i).length<=h.length:=bg;have q6:(c.aB.take k).length<=3:=bg;refine⟨ab,ab,f,by simpa using x4.ad g3,ab,ab,w,by simpa using(hf.ext x4).aE hw,?_⟩;rw[e1,e2];simp only[Sl.eO,Sl.gN,Sl.lQ,aGa,aGr];refine⟨ab,ab,_,rB B4 cA,ab,ab,Nr B4 cA,?_⟩;rw[show bS (cL (h.take i) (ix w)+cX (c.aB.take k) (ix w)+1)=cL (h.take i) (ix w)+cX (c.aB.take k) (ix w)+1 from aF ab ab];refine eN ab _ ⟨(x3.trans x4).ag (aFR _) _ _,?_⟩;have B5:=Hl B4 (ix w) (cL (h.take i) (ix w)+cX (c.aB.take k) (ix w)+1);rw[dy (g:=λa=>cL (h.take i) a+cX (c.aB.take (k+1)) a)]at B5
    ·exact B5
    ·intro b hb;rw[pd hw];by_cases e:b=ix w
     ·subst e;rw[aFW rfl,aFW (fD iO.1).symm];omega
     ·rw[aFS e,aFS (λPq=>e (by rw[Pq,jg]))];omega
   ·refine eN ab m4 ⟨x3.trans x4,?_⟩;have LO:w<1000:=(Ia hc VZ Rf).resolve_left (fb hb h4);rw[dy (g:=λa=>cL (h.take i) a+cX (c.aB.take k) a)]
    ·exact B3.ext x4
    ·intro b hb;rw[pd hw,aFS ab];omega
  ·simp only[aFQ]at h2;refine next ab m3 ⟨x3,?_⟩
   have ee:c.aB.take k=c.aB:=bL ab;rw[ee]at B3;rw[dy (g:=λa=>cL (h.take i) a+cX c.aB a)]
   ·exact B3
   ·intro b hb;exact Ns hci b
 ·simp only[aFQ]at h1;rw[bL ab]at B2;exact⟨_,rfl,OF B2 ab,x2⟩
def jO(mk:Nat->Bool):Nat->Nat
 |0=>0
 |n+1=>jO mk n+(if mk n=true then 1 else 0)
theorem EX(mk:Nat->Bool):∀n,jO mk n<=n
 |0=>aFR _
 |n+1=>by have:=EX mk n;simp only[jO];split<;>omega
theorem KZ{mk:Nat->Bool}:∀{n:Nat},(jO mk n=n<->∀i,i<n->mk i=true)
 |0=>by simp[jO]
 |n+1=>by
  have h1:=EX mk n;have h2:=KZ (mk:=mk) (n:=n);simp only[jO];constructor
  ·intro h i hi;have h3:mk n=true:=by by_cases e:mk n=true;exact e;rw[aFS e]at h;omega
   rw[aFW h3]at h;rcases aF1 i n with h4|h4
   ·exact h2.1 ab i h4
   ·have:i=n:=ab;rw[this];exact h3
  ·intro h;rw[aFW (h n ab),h2.2 λi hi=>h i ab]
theorem K4{mk mk':Nat->Bool}:∀{n:Nat},(∀i,i<n->mk i=mk' i)->jO mk n=jO mk' n
 |0,_=>rfl
 |n+1,h=>by simp only[jO];rw[K4 λi hi=>h i ab,h n ab]
def jX(mk:Nat->Bool)(a:Nat):Nat->Bool:=λx=>if x=a then true else mk x
theorem zZ(mk:Nat->Bool)(a:Nat):jX mk a a=true:=aFW rfl
theorem nD{mk:Nat->Bool}{a b:Nat}(h:b≠a):jX mk a b=mk b:=aFS h
theorem Aa{mk:Nat->Bool}{a b:Nat}(h:mk b=true):jX mk a b=true:=by unfold jX;split;rfl;exact h
theorem zq{mk:Nat->Bool}{a:Nat}(h:mk a=false):∀{n:Nat},a<n->jO (jX mk a) n=jO mk n+1
 |0,ha=>absurd ha (aGB _)
 |n+1,ha=>by
  simp only[jO];rcases aF1 a n with h1|h1
  ·rw[zq h h1,nD ab];omega
  ·have e:a=n:=ab;subst e;rw[zZ,aFW rfl,h,aFS az,K4 (mk':=mk) λi hi=>nD ab]
def Nt(h:List aR)(mk:Nat->Bool):Prop:=
 ∃t:Nat->Nat,(∀j,mk j=true->t j<=jO mk h.length)/\∀(i:Nat)(c:aR),h[i]? =some c->mk i=true->∀w∈c.aB,1000<=w->mk (ix w)=true/\t (ix w)<t i
def Qk(mk:Nat->Bool)(ws:List Int):Prop:=∀w∈ws,1000<=w->mk (ix w)=true
theorem Nt.set{h:List aR}{mk:Nat->Bool}(hm:Nt h mk){a:Nat}{c:aR}(hc:h[a]? =some c)(ha:mk a=false)(gZ:Qk mk c.aB):Nt h (jX mk a):=by
 obtain⟨t,h1,h2⟩:=hm;have cA:=ap hc;have e:=zq ha cA;refine⟨λx=>if x=a then jO mk h.length+1 else t x,λj hj=>?_,λi d hd hi w hw hp=>?_⟩
 ·simp only[e];split
  ·omega
  ·rename_i hja;rw[nD hja]at hj;have:=h1 j hj;omega
 ·by_cases Q6:i=a
  ·subst Q6;rw[hc]at hd;simp at hd;subst hd;have SD:=gZ w hw hp;have cx:ix w≠i:=λe2=>by rw[e2,ha]at SD;cases SD
   simp only[aFW,aFS cx];exact⟨Aa SD,by have:=h1 _ SD;omega⟩
  ·rw[nD Q6]at hi;obtain⟨q1,q2⟩:=h2 i d hd hi w hw hp;have cx:ix w≠a:=λe2=>by rw[e2,ha]at q1;cases q1
   simp only[aFS Q6,aFS cx];exact⟨Aa q1,q2⟩
theorem UZ{h:List aR}{mk:Nat->Bool}(hm:Nt h mk)(iO:∀c∈h,∀w∈c.aB,1000<=w->ix w<h.length)(ag7:∀(i:Nat)(c:aR),h[i]? =some c->mk i=true\/¬Qk mk c.aB):
 jO mk h.length=h.length<->WN h:=by
 rw[KZ]
 constructor
 ·intro gZ
  obtain⟨t,_,h2⟩:=hm
  exact⟨t,λi c hc w hw hp=>(h2 i c hc (gZ i (ap hc)) w hw hp).2⟩
 ·rintro⟨rG,hr⟩
  have key:∀(n i:Nat),rG i<n->i<h.length->mk i=true:=by
   intro n;induction n with
   |zero=>intro i hi;omega
   |succ n ih=>
    intro i hi cA;obtain⟨c,hc⟩:=ae cA;rcases ag7 i c hc with h1|h1
    ·exact h1
    ·refine absurd (λw hw hp=>?_) h1;exact ih (ix w) (by have:=hr i c hc w hw hp;omega) (iO c (ak hc) w hw hp)
  exactλi hi=>key (rG i+1) i ab hi
def zr(n:Nat)(f:Nat->Bool):List Ce:=(List.range n).map λa=>Ce.t (f a)
theorem EY(n:Nat)(f:Nat->Bool):(zr n f).length=n:=by simp[zr]
theorem TO{M:ah}{b n:Nat}{f:Nat->Bool}(B:bK M b p7 (zr n f)){a:Nat}(h:a<n):ad M b a=some (vb (f a)):=by
 rw[B.bH a];unfold zr;rw[aGb,aHL h];rfl
theorem aaz{M:ah}{b n:Nat}{f:Nat->Bool}(B:bK M b p7 (zr n f))(a:Nat):bK (ag M b a [.t true]) b p7 (zr n (jX f a)):=by
 have h1:=B.ag (m:=M) (o:=a) (r:=[.t true]);have e:fP (zr n f) a [.t true]=zr n (jX f a):=by
  apply aGC;intro i;simp only[fP];by_cases hi:i<n
  ·have e2:∀g:Nat->Bool,(zr n g)[i]? =some (.t (g i)):=λg=>by unfold zr;rw[aGb,aHL hi];rfl
   rw[e2];by_cases e:a=i
   ·subst e;rw[aGl (by rw[EY];exact hi),zZ]
   ·rw[aGn e,e2,nD (λh=>e h.symm)]
  ·rw[aGc (by rw[aGO,EY];omega),aGc (by rw[EY];omega)]
 rw[e]at h1;exact h1
theorem aaA(M:ah)(n:Nat):bK (M.push (.cells (aU (kL [.t false] n)) p7)) M.size p7 (zr n (λ_=>false)):=by
 have e:kL [.t false] n=zr n (λ_=>false):=by
  unfold kL zr;rw[List.map_const'];simp
 rw[e];exact bK.push M _ _
theorem EZ{m:ah}{b n:Nat}{mk:Nat->Bool}{f:Sl}{ws:List Int}(B:bK m b p7 (zr n mk))(hf:aj m f ws)(hw:∀w∈ws,Hk w)(hr:∀w∈ws,1000<=w->ix w<n):
 cB Tryz.prog 86 [Sl.v (.mk b 0 n n),Sl.v f] m (Qk mk ws):=by
 apply yi
 have hl:=hf.len
 have zG:=hf.eP
 refine dg (n:=ws.length) ab (λk m'=>af m m'/\Qk mk (ws.take k)) ⟨af.av _,λw hw=>by simp at hw⟩ ?_
 rintro k m1 I μ hk ⟨x1,hq⟩ next
 refine⟨λh1=>?_,λh1=>?_⟩
 ·simp only[aFP]at h1
  obtain⟨w,QT⟩:=ae (l:=ws) (k:=k) ab
  have Rf:=ak QT
  have h64:=hw w Rf
  refine⟨ab,ab,w,by simpa using(hf.ext x1).aE QT,(cG _ _).then λq m2 YZ x2=>⟨q,rfl,λh2=>?_,λh2=>?_⟩⟩
  ·have hp:=YZ.1 h2
   have cA:=hr w Rf hp
   have e1:bS (w -1000)=(ix w:Nat):=by have:=h64.2;unfold ix;rw[aF ab ab];omega
   have e2:Int.toNat ((ix w:Nat):Int)=ix w:=ab
   refine⟨ab,ab,w,by simpa using(hf.ext (x1.trans x2)).aE QT,?_⟩
   rw[e1,e2]
   simp only[Sl.eO,Sl.gN,Sl.lQ,aGa,aGr]
   refine⟨ab,ab,mk (ix w),TO (B.ext (x1.trans x2)) cA,λh3=>?_,λh3=>next ab m2 ⟨x1.trans x2,?_⟩⟩
   ·exact bC (λgZ=>by rw[gZ w Rf hp]at h3;cases h3) (x1.trans x2)
   ·rw[Qk,bn QT]
    intro v hv Y5
    rcases List.mem_append.1 hv with hv|hv
    ·exact hq v hv Y5
    ·simp at hv;subst hv;simpa using h3
  ·refine next ab m2 ⟨x1.trans x2,?_⟩
   rw[Qk,bn QT]
   intro v hv Y5
   rcases List.mem_append.1 hv with hv|hv
   ·exact hq v hv Y5
   ·simp at hv;subst hv;exact absurd Y5 (fb YZ h2)
 ·simp only[aFQ]at h1
  rw[bL ab]at hq
  exact gP hq x1
theorem E8{m:ah}{hp:Sl}{h:List aR}(hh:cy m hp h)(hc:∀c∈h,mj h c)(dp:UY h)(xp:h.length<=1000000000):cB Tryz.prog 57 [Sl.v hp] m (WN h):=by
 apply xX;have hl:=hh.len;have en:Int.toNat (hp.len:Int)=h.length:=ab;rw[en];have iO:∀c∈h,∀w∈c.aB,1000<=w->ix w<h.length:=λc hm w hw hp=>by
  rcases Ia hc hm hw with h1|h1
  ·exact ap (bE h1).1
  ·omega
 refine⟨ab,ab,ab,ab,?_⟩;intro m1;have x1:af m m1:=(af.av m).aC _;have B1:bK m1 m.size p7 (zr h.length (λ_=>false)):=aaA m _;clear_value m1;have c0:jO (λ_=>false) h.length=0:=by
  generalize h.length=n;induction n with
  |zero=>rfl
  |succ n ih=>simp[jO,ih]
 refine Tv (γ:=(Nat->Bool)×Bool) (λg many dY m'=>dY=g.2/\many=(jO g.1 h.length:Nat)/\af m m'/\bK m' m.size p7 (zr h.length g.1)/\Nt h g.1/\(dY=false->∀(i:Nat)(c:aR),h[i]? =some c->g.1 i=true\/¬Qk g.1 c.aB))
  (λg=>if g.2=true then h.length -jO g.1 h.length+1 else 0) (λ_=>false,true) ⟨rfl,by rw[c0];rfl,x1,B1,⟨λ_=>0,az,az⟩,az⟩ ?_
 rintro⟨mk,dY⟩ many awI m2 I μ ⟨rfl,rfl,x2,B2,M2,E2⟩ next
 simp only at B2 M2 E2 next⊢
 refine⟨λh1=>?_,λh1=>?_⟩
 ·refine⟨λmany1 Uz i m'=>∃(k:Nat)(Pr:Nat->Bool),i=k/\k<=h.length/\many1=(jO Pr h.length:Nat)/\af m m'/\bK m' m.size p7 (zr h.length Pr)/\Nt h Pr/\jO mk h.length<=jO Pr h.length/\(Uz=true->jO mk h.length<jO Pr h.length)/\
   (Uz=false->∀(i:Nat)(c:aR),i<k->h[i]? =some c->Pr i=true\/¬Qk Pr c.aB),λ_ _ i _=>((h.length:Int) -i).toNat,⟨0,mk,rfl,aGq _,rfl,x2,B2,M2,aFR _,az,λ_ i c hi=>absurd hi (aGB _)⟩,?_⟩
  rintro many1 Uz i m3 ⟨k,Pr,rfl,hk,rfl,x3,B3,M3,le3,lt3,E3⟩;have pt:=EX Pr h.length;have qT:∀{P:Prop},k<h.length->(bS ((k:Int)+1)=((k+1:Nat):Int)->((h.length:Int) -((k+1:Nat):Int)).toNat<((h.length:Int) -(k:Int)).toNat->P)->P:=λcA hP=>hP (iG cA ab) (Bw cA);refine⟨λh2=>?_,λh2=>?_⟩
  ·simp only[aFP]at h2;have jk:k<h.length:=ab;obtain⟨c,BT⟩:=ae jk;have e2:Int.toNat (k:Int)=k:=ab;simp only[Sl.eO,Sl.gN,Sl.lQ,aGa,aGr,e2];refine⟨ab,ab,Pr k,TO B3 jk,λh3=>?_,λh3=>?_⟩
   ·have NN:Pr k=false:=by simpa using h3
    obtain⟨f,hf,_,_,g3⟩:=(cy.ext x3 hh).aE BT;refine⟨ab,ab,f,g3,(EZ B3 hf (dp c (ak BT)) (iO c (ak BT))).then λb m4 hb x4=>⟨b,rfl,λh4=>?_,λh4=>?_⟩⟩
    ·have B4:=B3.ext x4;have es:=zq NN jk;refine⟨ab,ab,B4.dW (by rw[EY];omega),?_⟩;refine qT jk λew hmu=>?_;rw[ew,show bS ((jO Pr h.length:Nat)+1:Int)=((jO (jX Pr k) h.length:Nat):Int)by rw[es,aF ab ab];omega];exact⟨⟨k+1,jX Pr k,rfl,ab,rfl,(x3.trans x4).ag (aFR _) _ _,aaz B4 k,M3.set BT NN (hb.1 h4),ab,λ_=>ab,λh5=>by cases h5⟩,hmu⟩
    ·refine qT jk λew hmu=>?_;rw[ew];refine⟨⟨k+1,Pr,rfl,ab,rfl,x3.trans x4,B3.ext x4,M3,le3,lt3,λh5 j d hj hd=>?_⟩,hmu⟩;rcases aF1 j k with h6|h6
     ·exact E3 h5 j d h6 hd
     ·have:j=k:=ab;subst this;rw[BT]at hd;simp at hd;subst hd;exact Or.inr (fb hb h4)
   ·have NN:Pr k=true:=by simpa using h3
    refine qT jk λew hmu=>?_;rw[ew];refine⟨⟨k+1,Pr,rfl,ab,rfl,x3,B3,M3,le3,lt3,λh5 j d hj hd=>?_⟩,hmu⟩;rcases aF1 j k with h6|h6
    ·exact E3 h5 j d h6 hd
    ·have:j=k:=ab;subst this;exact Or.inl NN
  ·simp only[aFQ]at h2;refine next (Pr,Uz) _ _ m3 ⟨rfl,rfl,x3,B3,M3,λh5 j d hd=>E3 h5 j d (by have:=ap hd;omega) hd⟩ ?_
   simp only[h1,aIR];split
   ·rename_i h6;have:=lt3 h6;omega
   ·omega
 ·refine ez ?_ x2;rw[<-UZ M2 iO (E2 h1)];simp;omega
theorem Fa{m:ah}{hp:Sl}{h:List aR}(hh:cy m hp h)(dp:UY h)(xp:h.length<=1000000000):cB Tryz.prog 29 [Sl.v hp] m (OB h):=by
 apply xO;have hl:=hh.len;refine⟨λm'=>m'=m/\lK h,⟨λh1=>?_,λh1=>⟨rfl,λc hc=>?_⟩⟩,?_⟩
 ·simp at h1;rw[aF ab ab];obtain⟨c,hc⟩:=ae (l:=h) (k:=h.length -1) ab;obtain⟨f,hf,g1,_,_⟩:=hh.aE hc;have e:Int.toNat ((hp.len:Int) -1)=h.length -1:=ab;rw[e];refine⟨ab,ab,c.aG,g1,λh2=>bC (λhk=>?_) (af.av _),λh2=>⟨rfl,λd hd=>?_⟩⟩
  ·exact hk.fE c hc (by simpa using h2)
  ·rw[hc]at hd;simp at hd;subst hd;simpa using h2
 ·have:=ap hc;simp at h1;omega
 rintro m1 ⟨rfl,ht⟩;refine dg (n:=h.length) ab (λk m'=>af m1 m'/\∀c∈h.take k,mj h c) ⟨af.av _,az⟩ ?_;rintro k m2 I μ hk ⟨x2,hq⟩ next
 refine⟨λh1=>?_,λh1=>?_⟩
 ·simp only[aFP]at h1;obtain⟨c,hc⟩:=ae (l:=h) (k:=k) ab;obtain⟨f,hf,g1,g2,g3⟩:=(cy.ext x2 hh).aE hc;refine⟨ab,ab,c.aG,by simpa using g1,c.jW,by simpa using g2,f,by simpa using g3,(EW (cy.ext x2 hh) hf (dp c (ak hc))).then λb m3 hb x3=>⟨b,rfl,λh2=>bC (λhk=>nb hb h2 (hk.cells c (ak hc))) (x2.trans x3),λh2=>next ab m3 ⟨x2.trans x3,aZ hc hq (yb hb h2)⟩⟩⟩
 simp only[aFQ]at h1;have kJ:=bM ab hq;refine(zp (cy.ext x2 hh) kJ dp xp).mono ?_;rintro _ m3 ⟨r,rfl,hr,x3⟩;have nL:=hr.len;rw[lL]at nL;refine⟨r,rfl,dg (n:=h.length) ab (λk m'=>af m3 m'/\∀(a:Nat)(c:aR),a<k->h[a]? =some c->0<c.aG->cL h a<=c.aG) ⟨af.av _,λa c ha=>absurd ha (aGB _)⟩ ?_⟩;rintro k m4 J ν hk4 ⟨x4,Zm⟩ zI;have eU:=(x2.trans x3).trans x4;refine⟨λh2=>?_,λh2=>?_⟩
 ·simp only[aFP]at h2;obtain⟨c,hc⟩:=ae (l:=h) (k:=k) ab;obtain⟨f,hf,g1,g2,g3⟩:=(cy.ext eU hh).aE hc;have dY:(0<c.aG->cL h k<=c.aG)->∀(a:Nat)(d:aR),a<k+1->h[a]? =some d->0<d.aG->cL h a<=d.aG:=λhn a d ha hd=>by
   rcases aF1 a k with h6|h6
   ·exact Zm a d h6 hd
   ·have:a=k:=ab;subst this;rw[hc]at hd;simp at hd;subst hd;exact hn
  refine⟨ab,ab,c.aG,by simpa using g1,λh3=>?_,λh3=>zI ab m4 ⟨x4,dY λh5=>by simp at h3;omega⟩⟩;have hg:=(hr.ext x4).aE (k:=k) (sT (f:=cL h) (show k<h.length by omega));refine⟨ab,ab,c.aG,by simpa using g1,ab,ab,cL h k,by simpa using hg,λh4=>bC (λhk=>?_) eU,λh4=>zI ab m4 ⟨x4,dY λ_=>by simp at h4;omega⟩⟩;have:=hk.cL k c hc (by simpa using h3);simp at h4;omega
 ·simp only[aFQ]at h2;refine(E8 (cy.ext eU hh) kJ dp xp).then λb m5 hb x5=>⟨b,rfl,ez ?_ (eU.trans x5)⟩;rw[hb];exact⟨λha=>⟨ht,kJ,λa c hc hp=>Zm a c (by have:=ap hc;omega) hc hp,ha⟩,λhk=>hk.Ml⟩
end Go.Proofs.YtakpkjhmbbfniaaGreat
