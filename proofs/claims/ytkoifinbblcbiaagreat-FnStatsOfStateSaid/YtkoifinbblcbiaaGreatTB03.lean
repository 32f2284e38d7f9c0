/- Part of a proof. -/
import Derived.Test.YtkoifinbblcbiaaGreatTB02
set_option linter.all false
set_option maxHeartbeats 8000000
set_option maxRecDepth 100000
namespace Go.Proofs.YtkoifinbblcbiaaGreat
open Go.Vc
section
structure yI(im:cg)(s:St)(fs:List aU)(f:aU)(x:Instr):Prop where
 ok:db im s
 run:s.bI=3
 fr:s.av=fs++[f]
 ZJ:dt im f=x
 Dq:∀g∈s.av,∀w∈g.an,w<=9223372036854775807
section
variable{b:cg}{s:St}{c:List aU}{f:aU}{x:Instr}
def yI.F(a:yI b s c f x):gN b f:=a.ok.av f (by rw[a.fr];simp)
def yI.MO(a:yI b s c f x):∀w∈f.an,w<=9223372036854775807:=a.Dq f (by rw[a.fr];simp)
def yI.I(a:yI b s c f x):∃p,b.cC[f.eg.toNat]? =some p/\dC b f.eg=p/\Hx b p/\p.cX[f.pc.toNat]? =some x/\iN b p f.pc.toNat x:=by
 have:=a.F.Jg a.ok.fA;rwa[a.ZJ]at this
def yI.Lm(a:yI b s c f x):f.an.length=f.aR.length/\f.aY.length=f.aR.length/\1<=f.aR.length/\f.aR.length<=2000:=by
 obtain⟨p,_,e,i,_,_⟩:=a.I;have d:=a.F.lr;have g:=a.F.lo;have h:=a.F.lh;rw[e]at d g h;have:=i.an;omega
def yI.arg(a:yI b s c f x):∀y∈x.args,0<=y/\y<f.an.length:=λy h=>by
 obtain⟨p,_,e,_,_,g⟩:=a.I;have d:=a.F.lr;rw[e]at d;have:=g.args y h;omega
def yI.dst(a:yI b s c f x):0<=x.dst/\x.dst<f.aR.length:=by
 obtain⟨p,_,e,_,_,g⟩:=a.I;have d:=a.F.lo;rw[e]at d;have:=g.dst;omega
def yI.call(a:yI b s c f x):zG b x:=let⟨_,_,_,_,_,d⟩:=a.I;d.call
def yI.ZN(a:yI b s c f x):0<=x.op/\x.op<=24/\x.op≠7/\x.op≠8/\x.op≠12/\x.op≠13:=by
 obtain⟨p,_,_,e,_,d⟩:=a.I;exact((Jh e.an.2.2 a.ok.fA.ni.len.2 λq g=>(a.ok.fA.ni.dx q g).1).1 d).1
def yI.lp(g:yI b s c f x):x.args.length<=4/\((x.op=5\/x.op=14\/x.op=15\/x.op=18\/x.op=23\/x.op=19\/x.op=20\/x.op=21)->x.args.length=1)/\((x.op=1\/x.op=2\/x.op=3\/x.op=4\/x.op=11)->x.args.length=2)/\
 ((x.op=16\/x.op=17)->1<=x.args.length)/\(x.op=6->0<=x.bM/\x.bM<=f.aY.length/\0<=x.bQ/\x.bQ<12/\x.args.length<=3)/\(x.op=10->0<=x.bQ/\x.bQ<4/\x.args.length<=3)/\(x.op=0->-999<=x.bQ/\x.bQ<=999):=by
 obtain⟨z,_,r,y,_,u⟩:=g.I
 have a:=u.op
 have t:=g.F.lh
 rw[r]at t
 have d:=g.ok.fA.ni
 have v:(eP b.bn).length<=12:=by
  have:=ry d.types b.bn.length;rw[mV _ _ (ad _)]at this;exact this
 have w:=Jb d.types x.bQ
 unfold lS at a
 by_cases h:x.op=0
 .rw[aj h]at a;omega
 rw[ae h]at a
 by_cases i:x.op=1\/x.op=2\/x.op=3\/x.op=4\/x.op=11
 .rw[aj i]at a;omega
 rw[ae i]at a
 by_cases j:x.op=5\/x.op=14\/x.op=15\/x.op=18\/x.op=23
 .rw[aj j]at a;omega
 rw[ae j]at a
 by_cases k:x.op=6
 .rw[aj k]at a;omega
 rw[ae k]at a
 by_cases l:x.op=9\/x.op=24
 .rw[aj l]at a
  let⟨q,n,e,o⟩:=a
  have:=(d.dx q (au e)).1;omega
 rw[ae l]at a
 by_cases m:x.op=10
 .rw[aj m]at a
  obtain⟨⟨q,n,e,o⟩,_⟩:=a
  have:=(d.dx q (au e)).1
  have:=az e
  have:=d.len;omega
 rw[ae m]at a
 by_cases n:x.op=16\/x.op=17
 .rw[aj n]at a;omega
 rw[ae n]at a
 by_cases o:x.op=19
 .rw[aj o]at a;omega
 rw[ae o]at a
 by_cases p:x.op=20
 .rw[aj p]at a;omega
 rw[ae p]at a
 by_cases q:x.op=22
 .rw[aj q]at a;omega
 rw[ae q]at a
 by_cases e:x.op=21
 .rw[aj e]at a
  have:=a.1;omega
 rw[ae e]at a;exact a.elim
def yI.Ll(d:yI b s c f x):∀w∈f.aY,w≠0->1000<=w/\∃e,s.heap[ix w]? =some e/\e.aQ<0:=λw h k=>by
 have g:1000<=w:=by have:=d.F.aY w h;omega
 refine⟨g,?_⟩;have j:0<eS s.av (ix w):=by
  rw[d.fr,eI,iZ];have:=zX c (ix w);have:=uS (l:=f.aY) (f:=ix w) (by rw[iV g];exact h);omega
 exact dB λi=>by have:=d.ok.nL (ix w) i;omega
def yI.OQ(d:yI b s c f x):∀o∈f.aR,0<=o/\o<=999999:=λo h=>by
 refine⟨(d.F.Qd o h),?_⟩;rcases dJ (0<o)with i|i
 .let⟨k,e⟩:=List.mem_iff_getElem?.1 h;have:=d.Lm;let⟨w,j⟩:=cK f.an k (oh (az e));have m:=LA d.F.Qd j e (d:=ix w) (by rw[iV ((d.F.aR k o w e j).2 i)]);have n:o<=gU s.av (ix w):=by
   rw[d.fr,fW,kQ];have:=Kr (b:=c) (λg l=>d.ok.av g (by rw[d.fr];exact bL _ l)) (ix w);omega
  let⟨g,hd,l⟩:=d.ok.heap.lv (ix w) V;have p:=d.ok.heap.ex _ g hd l;have q:=uV s.heap (ix w);have r:=(d.ok.heap.cell g (au hd)).hi;omega
 .omega
def yI.Kw(a:yI b s c f x):∀r∈bW b x,0<=r/\r<f.an.length:=λr d=>a.arg r (Ch d)
end
def Mm{o:E}{mb:Nat}{ah aw aW d fr:O}{M:cg}{K:St}(Q:RV o mb 2 ah aw aW d fr M K){fs:List aU}{m:aU}{x:Instr}(C:yI M K fs m x){Z ac h S am ow:O}(R:ar o Z m.an)(U:ar o h m.aY)(L:ar o S x.args){aR:List Int}(X:ar o ow aR)(aA:aR.length=m.aR.length):
 dR cq 71 [vp mb 0,fv m Z ac h,xv x S am,O.v ow] o (kA M K m x aR):=by
 apply uD (mb,0)
 simp -zeta only[aC,aB]
 intro Y P
 have b:J o P:=((J.aA o).aH _).aH _
 have i:∀g∈[Y.size,o.size],g<P.size:=by simp[P,Y];omega
 have ai:cw P Y.size de [.i x.op,.i x.dst,.i x.bQ,.i x.bM,.s S,.s am]:=cw.push Y _ _
 have ao:cw P o.size cL [.i m.eg,.i m.pc,.i m.dst,.s Z,.s ac,.s h]:=(cw.push o _ _).ext (J.push Y _)
 have ax:=L.len
 have aF:=R.len
 have ay:=U.len
 have aD:=X.len
 have hd:=C.dst
 have az:=C.Lm
 have G:=C.lp
 have hI:=C.ok.heap
 clear_value P
 refine⟨λN=>J P N/\(∀ac∈aR,0<=ac)/\(lT x.op->aG aR x.dst<=0),?_,?_⟩
 .refine(Bi (X.ext b)).aK (J.aA _) i λg m3 c n _=>⟨g,rfl,λu=>cT (λl=>nb c u l.nn) (b.trans n),λz=>?_⟩
  refine(xZ _ _).aK n i λb2 A y w a=>⟨b2,rfl,λu=>?_,λv=>⟨a,yb c z,λe=>absurd e (fb y v)⟩⟩
  refine⟨hd.1,V,aG aR x.dst,(X.ext (b.trans a)).pM hd.1 V,λk=>cT (λl=>?_) (b.trans a),λk=>⟨a,yb c z,λ_=>by simpa using k⟩⟩
  have:=l.dst (y.1 u);simp at k;omega
 .rintro m3 ⟨n,q,p⟩
  have f:=b.trans n
  have t:=Q.ext f
  have mk:∀{ad:Prop},(kA M K m x aR->ad)->(ad->kA M K m x aR)->(kA M K m x aR<->ad):=λI h2=>⟨I,h2⟩
  have B:1<=x.args.length->0<=aG x.args 0/\aG x.args 0<m.an.length:=λI=>C.arg _ (fq V V)
  have D:∀{N},J o N->1<=x.args.length->af N S.D (S.off+Int.toNat (0:Int)*1)=some (vi (aG x.args 0)):=λhx I=>(L.ext hx).pM V V
  have F:∀{N},J o N->1<=x.args.length->af N Z.D (Z.off+Int.toNat (aG x.args 0)*1)=some (vi (aG m.an (aG x.args 0))):=λhx I=>(R.ext hx).pM (B I).1 (B I).2
  refine⟨λe=>?_,λe1=>?_⟩
  .simp only[bV,aE]at e
   refine(Ev (R.ext f) (L.ext f) C.arg).aK n i λg A c w a=>⟨g,rfl,fI (c.trans ?_) (b.trans a)⟩
   refine⟨λd=>?_,λh=>h.nT V⟩
   refine⟨q,p,?_,?_,?_,?_,?_,?_,?_,?_,?_,?_,?_⟩<;>intro r<;>first|(exfalso;omega)|exact d
  simp only[bu,ak]at e1
  refine⟨λe=>?_,λe2=>?_⟩
  .simp only[aE]at e
   have j:=G.2.2.2.2.1 e
   refine(Ix t (U.ext f) (L.ext f) ⟨j.1,j.2.1⟩ V (λaa W T=>by obtain⟨I,s,H,_⟩:=C.Ll aa W T;exact⟨I,s,H⟩)).aK n i λg A c w a=>⟨g,rfl,fI (c.trans ?_) (b.trans a)⟩
   refine⟨λd=>?_,λh=>h.je e⟩
   refine⟨q,p,?_,?_,?_,?_,?_,?_,?_,?_,?_,?_,?_⟩<;>intro r<;>first|(exfalso;omega)|exact d
  simp only[ak]at e2
  refine⟨λe=>?_,λe3=>?_⟩
  .simp only[aE]at e
   refine(wP t (R.ext f) (L.ext f) C.F C.MO C.arg C.call (Or.inl e)).aK n i λg A c w a=>⟨g,rfl,fI (c.trans ?_) (b.trans a)⟩
   refine⟨λd=>?_,λh=>h.cO (Or.inl e)⟩
   refine⟨q,p,?_,?_,?_,?_,?_,?_,?_,?_,?_,?_,?_⟩<;>intro r<;>first|(exfalso;omega)|exact d
  simp only[ak]at e3
  refine⟨λe=>?_,λe4=>?_⟩
  .simp only[aE]at e
   refine(wP t (R.ext f) (L.ext f) C.F C.MO C.arg C.call (Or.inr e)).aK n i λg A c w a=>⟨g,rfl,λu=>?_,λz=>cT (λl=>fb c z (l.cO (Or.inr e))) (b.trans a)⟩
   refine(oD (X.ext (b.trans a))).aK a i λb2 m5 y k s=>⟨b2,rfl,λag=>?_,λv=>cT (λl=>fb y v (l.zero (Or.inl e)).1) (b.trans s)⟩
   refine(oD (U.ext (b.trans s))).aK s i λb3 m6 H T j=>⟨b3,rfl,fI (H.trans ?_) (b.trans j)⟩
   refine⟨λd=>?_,λh=>(h.zero (Or.inl e)).2⟩
   refine⟨q,p,?_,?_,?_,?_,?_,?_,?_,?_,?_,?_,?_⟩<;>intro r<;>first|(exfalso;omega)|exact c.1 u|exact⟨y.1 ag,d⟩
  simp only[ak]at e4
  refine⟨λe=>?_,λe5=>?_⟩
  .simp only[aE]at e
   have W:=G.2.1 V
   refine(oD (X.ext f)).aK n i λb2 m5 y k s=>⟨b2,rfl,λag=>?_,λv=>cT (λl=>fb y v (l.zero (Or.inr e)).1) (b.trans s)⟩
   refine(oD (U.ext (b.trans s))).aK s i λb3 m6 H T j=>⟨b3,rfl,λau=>?_,λap=>cT (λl=>fb H ap (l.zero (Or.inr e)).2) (b.trans j)⟩
   have ab:=b.trans j
   have aj:=Q.ext ab
   have aa:=aj.av.len
   have iy:∀d:1<K.av.length\/aG m.an (aG x.args 0)<1000,kA M K m x aR:=λd=>by
    refine⟨q,p,?_,?_,?_,?_,?_,?_,?_,?_,?_,?_,?_⟩<;>intro r<;>first|(exfalso;omega)|exact⟨y.1 ag,H.1 au⟩|exact d
   refine⟨fr,aj.OD,λh8=>jU (iy (Or.inl (by simp at h8;omega))) ab,λh8=>?_⟩
   refine⟨V,V,_,D ab V,(B V).1,oh ((B V).2),_,F ab V,(fE _ _).aK j i λb4 m7 al h9 ae=>⟨b4,rfl,fI ?_ (b.trans ae)⟩⟩
   simp at h8
   constructor
   .intro an
    exact iy (Or.inr (oh (nb al an)))
   .intro l
    rcases l.ret e with an|an
    .omega
    .have:¬b4=true:=λav=>by have:=al.1 av;omega
     simpa using this
  simp only[ak]at e5
  refine⟨λe=>?_,λe6=>?_⟩
  .simp only[aE]at e
   have W:=G.2.2.1 V
   have j:=B V
   refine⟨V,V,_,D f V,j.1,V,_,F f V,(Iw t C.ok.fA hI (C.F.pW j.1 j.2 C.MO)).aK n i λg A c w a=>⟨g,rfl,fI (c.trans ?_) (b.trans a)⟩⟩
   refine⟨λd=>?_,λh=>h.apply e⟩
   refine⟨q,p,?_,?_,?_,?_,?_,?_,?_,?_,?_,?_,?_⟩<;>intro r<;>first|(exfalso;omega)|exact d
  simp only[ak]at e6
  refine⟨λe=>?_,λe7=>?_⟩
  .simp only[aE]at e
   have W:=G.2.1 V
   have j:=B V
   refine⟨V,V,_,D f V,j.1,V,_,F f V,d,t.rB,(lH t.heap (C.F.pW j.1 j.2 C.MO)).aK n i λg A c w a=>⟨g,rfl,λu=>?_,λz=>cT (λl=>fb c z (l.VV e).1) (b.trans a)⟩⟩
   have v:=c.1 u
   refine(fP (Q.ext (b.trans a)) v.1 (bZ v).1).aK a i ?_
   rintro _ m5 ⟨fl,rfl,aa,k⟩
   refine⟨k,_,_,_,rfl,fI ?_ (b.trans (a.trans k))⟩
   simp only[aq]
   refine⟨λd=>?_,λh=>(h.VV e).2⟩
   refine⟨q,p,?_,?_,?_,?_,?_,?_,?_,?_,?_,?_,?_⟩<;>intro r<;>first|(exfalso;omega)|exact⟨v,d⟩
  simp only[ak]at e7
  refine⟨λe=>?_,λe8=>?_⟩
  .simp only[aE]at e
   have W:=G.2.1 V
   have j:=B V
   refine⟨V,V,_,D f V,j.1,V,_,F f V,(fE _ _).aK n i λg A c w a=>⟨g,rfl,fI (c.trans ?_) (b.trans a)⟩⟩
   refine⟨λd=>?_,λh=>h.drop e⟩
   refine⟨q,p,?_,?_,?_,?_,?_,?_,?_,?_,?_,?_,?_⟩<;>intro r<;>first|(exfalso;omega)|exact d
  simp only[ak]at e8
  refine⟨λe=>?_,λe9=>?_⟩
  .simp only[bV,aE]at e
   refine(J7 t hI (R.ext f) (U.ext f) (L.ext f) C.F C.MO C.arg ⟨G.2.2.2.1 e,G.1⟩ e).aK n i λg A c w a=>⟨g,rfl,fI (c.trans ?_) (b.trans a)⟩
   refine⟨λd=>?_,λh=>h.Jp e⟩
   refine⟨q,p,?_,?_,?_,?_,?_,?_,?_,?_,?_,?_,?_⟩<;>intro r<;>first|(exfalso;omega)|exact d
  simp only[bu,ak]at e9
  refine⟨λe=>?_,λab=>?_⟩
  .simp only[aE]at e
   have W:=G.2.1 V
   have j:=B V
   refine⟨d,t.rB,V,V,_,D f V,j.1,V,_,F f V,(lH t.heap (C.F.pW j.1 j.2 C.MO)).aK n i λg A c w a=>⟨g,rfl,λu=>?_,λz=>cT (λl=>fb c z (l.load e).1) (b.trans a)⟩⟩
   have v:=c.1 u
   have H:=b.trans a
   refine⟨V,V,_,D H V,j.1,V,_,F H V,(fP (Q.ext H) v.1 (bZ v).1).aK a i ?_⟩
   rintro _ m5 ⟨fl,rfl,aa,k⟩
   have ag:=aa.len
   refine⟨k,_,_,_,rfl,k.cr ((ai.ext a).bU 2),fI ?_ (b.trans (a.trans k))⟩
   simp only[aq]
   refine⟨λd=>?_,λh=>oh ((h.load e).2)⟩
   refine⟨q,p,?_,?_,?_,?_,?_,?_,?_,?_,?_,?_,?_⟩<;>intro r<;>first|(exfalso;omega)|exact⟨v,V⟩
  simp only[ak]at ab
  refine⟨λe=>?_,λag=>?_⟩
  .simp only[aE]at e
   have W:=G.2.1 V
   have j:=B V
   refine⟨d,t.rB,V,V,_,D f V,j.1,V,_,F f V,(lH t.heap (C.F.pW j.1 j.2 C.MO)).aK n i λg A c w a=>⟨g,rfl,λu=>?_,λz=>cT (λl=>fb c z (l.BJ e).1) (b.trans a)⟩⟩
   have v:=c.1 u
   have H:=b.trans a
   have l:=Q.ext H
   refine⟨ah,l.bn,V,V,_,D H V,j.1,V,_,F H V,(AI l.fA.bn C.ok.fA.ni.types _).aK a i ?_⟩
   rintro _ m5 ⟨cs,rfl,aj,k⟩
   have s:=a.trans k
   refine⟨k,cs,rfl,k.cr (F H V),k.cr (D H V),k.cr ((ai.ext a).bU 4),k.cr ((ao.ext a).bU 3),(fP (Q.ext (b.trans s)) v.1 (bZ v).1).aK s i ?_⟩
   rintro _ m6 ⟨fl,rfl,aa,T⟩
   refine⟨T,_,_,_,rfl,(dw (aj.ext T) _).aK (s.trans T) i λb2 m7 y h8 ae=>⟨b2,rfl,fI (y.trans ?_) (b.trans ae)⟩⟩
   refine⟨λd=>?_,λh=>(h.BJ e).2⟩
   refine⟨q,p,?_,?_,?_,?_,?_,?_,?_,?_,?_,?_,?_⟩<;>intro r<;>first|(exfalso;omega)|exact⟨v,d⟩
  .simp only[ak]at ag
   refine jU ?_ f
   refine⟨q,p,?_,?_,?_,?_,?_,?_,?_,?_,?_,?_,?_⟩<;>intro r<;>exfalso<;>omega
end
section
variable{p:Nat->Prop}{o n:Nat}{i:Int}{f:O}
structure dz(p:Nat->Prop)(ro:Nat->Nat)(m:E)(ro':Nat->Nat)(m':E):Prop where
 size:m.size<=m'.size
 jc:∀b,b<m.size->ro' b=ro b
 new:∀b,m'.size<=b->ro' b=0
 dQ:∀b,b<m.size->¬p (ro b)->m'[b]? =m[b]?
def dz.aA(p:Nat->Prop){a:Nat->Nat}{m:E}(h:∀b,m.size<=b->a b=0):dz p a m a m:=⟨ad _,λ_ _=>rfl,h,λ_ _ _=>rfl⟩
def dz.trans{g i j:Nat->Nat}{d e f:E}(h:dz p g d i e)(k:dz p i e j f):dz p g d j f:=
 ⟨bX h.size k.size,λb a=>by rw[k.jc b (aO a h.size),h.jc b a],k.new,λb a c=>by
  rw[k.dQ b (aO a h.size) (by rw[h.jc b a];exact c),h.dQ b a c]⟩
def dz.mono{q:Nat->Prop}{b c:Nat->Nat}{m a:E}(h:dz p b m c a)(g:∀k,p k->q k):dz q b m c a:=⟨h.size,h.jc,h.new,λd e i=>h.dQ d e λf=>i (g _ f)⟩
def dz.eT(p:Nat->Prop){c:Nat->Nat}{m d:E}(h:J m d)(e:∀b,m.size<=b->c b=0):dz p c m c d:=⟨h.size,λ_ _=>rfl,λb a=>e b (bX h.size a),λb a _=>h.same b a⟩
def dz.ag{a:Nat->Nat}{m:E}(g:∀b,m.size<=b->a b=0){b:Nat}(f:p (a b))(o:Nat)(l:List Ce):dz p a m a (ag m b o l):=
 ⟨uh (aw _ _ _ _).symm,λ_ _=>rfl,λc d=>g c (by rw[aw]at d;exact d),λc _ h=>bo _ _ _ _ λe=>h (e▸f)⟩
abbrev HC:=dz (λk=>k=3\/k=5\/k=6)
abbrev To:=dz (λk=>k≠0/\k≠9)
def dz.cv{g i:Nat->Nat}{c m f:E}(h:To g m i f)(e:J c m)(d:∀b,b<c.size->g b=0):J c f/\∀b,b<c.size->i b=0:=by
 have j:=e.size;exact⟨⟨bX j h.size,λb a=>by rw[h.dQ b V (by simp[d b a]),e.same b a]⟩,λb a=>by rw[h.jc b V,d b a]⟩
def dz.dv{e f:Nat->Nat}{m d:E}(h:To e m f d){l:List Nat}(c:∀b∈l,b<m.size/\e b=0):dY l m d:=λb a=>h.dQ b (c b a).1 (by simp[(c b a).2])
structure iA(ro:Nat->Nat)(m:E)(e sz k:Nat)(s:O)(l:List Ce):Prop where
 len:l.length=s.len*sz
 le:s.len<=s.cap
 aG:s.cap=0\/∃b c tail,s=.mk b 0 s.len c/\ro b=k/\cw m b e (l++tail)/\(l++tail).length=c*sz
section
variable{c g:Nat->Nat}{b d:E}{e a k:Nat}{s:O}{l:List Ce}
def iA.Dp(h:iA c b e a k s l)(f:s.cap=0):l=[]/\s.len=0:=by
 have:=h.le;have d:s.len=0:=V;exact⟨List.length_eq_zero_iff.1 (by rw[h.len,d];simp),d⟩
def iA.iF(h:iA c b e a k s l):fX b s.D s.off l:=by
 rcases h.aG with f|⟨j,d,tail,h1,h2,h3,h4⟩
 .rw[(h.Dp f).1];intro i d g;simp at g
 .rw[h1];exact h3.iF.MG
def iA.wr(h:iA c b e a k s l)(d:o+n<=l.length):eC b s.D (s.off+o) n:=by
 rcases h.aG with f|⟨g,i,tail,h1,h2,h3,h4⟩
 .rw[(h.Dp f).1]at d;intro m j;simp at d;omega
 .rw[h1];simp only[O.jB,O.tH,cE];exact h3.eC bJ
def iA.dQ(h:iA c b e a k s l)(p:s.cap≠0->d[s.D]? =b[s.D]?)(q:s.cap≠0->g s.D=c s.D):iA g d e a k s l:=by
 refine⟨h.len,h.le,?_⟩;rcases h.aG with o|⟨m,n,tail,h1,h2,h3,h4⟩
 .exact Or.inl o
 .by_cases f:s.cap=0
  .exact Or.inl f
  .have i:=p f;have j:=q f;rw[h1]at i j;exact Or.inr ⟨m,n,tail,h1,j.trans h2,h3.congr i,h4⟩
def iA.D(h:iA c b e a k s l)(f:s.cap≠0):s.D<b.size/\c s.D=k:=by
 rcases h.aG with d|⟨g,i,tail,h1,h2,h3,h4⟩
 .exact absurd d f
 .rw[h1];exact⟨h3.lt,h2⟩
def iA.eY(h:iA c b e a k s l)(i:dz p c b g d)(j:¬p k):iA g d e a k s l:=
 h.dQ (λf=>i.dQ _ (h.D f).1 (by rw[(h.D f).2];exact j)) (λf=>i.jc _ (h.D f).1)
def iA.set(h:iA c b e a k s l){new:List Ce}(w:o+new.length<=l.length):iA c (ag b s.D (s.off+o) new) e a k s (js l o new):=by
 refine⟨by rw[kT];exact h.len,h.le,?_⟩;rcases h.aG with u|⟨j,n,tail,h1,h2,h3,h4⟩
 .exact Or.inl u
 .refine Or.inr ⟨j,n,tail,h1,h2,?_,by simp only[ba,kT]at h4⊢;exact h4⟩;have p:s.D=j:=by rw[h1];rfl
  have q:s.off=0:=by rw[h1];rfl
  rw[p,q,cE];have:=cw.ag (m:=b) (o:=o) (r:=new) h3;have t:js (l++tail) o new=js l o new++tail:=by
   have f:(js l o new).length=l.length:=kT _ _ _;apply iL;intro i;rcases aZ i l.length with d|d
   .have g:(js l o new++tail)[i]? =(js l o new)[i]? :=ax (by rw[f];exact d);rw[g,wD,wD];simp only[ba];by_cases v:o<=i/\i<o+new.length
    .rw[aj V,aj V]
    .rw[ae V,ae V,ax d]
   .have g:(js l o new++tail)[i]? =tail[i -l.length]? :=by rw[aF (by rw[f];exact d),f]
    rw[g,wD,ae V,aF d]
  rw[t]at this;exact this
def iA.cut(h:iA c b e a k s l){n:Nat}(m:n<=s.len):iA c b e a k (s.cut 0 n a) (l.take (n*a)):=by
 have j:=h.le;have q:=h.len;rcases h.aG with i|⟨f,g,tail,h1,h2,h3,h4⟩
 .have d:n=0:=V;cases s with
  |nil=>exact⟨by simp[d,O.cut],by simp[O.cut],Or.inl rfl⟩
  |zT f o p=>exact⟨by simp[d,O.cut],by simp[O.cut],Or.inl rfl⟩
  |mk f o r p=>simp at i;subst i;exact⟨by simp[d,O.cut],by simp[d,O.cut],Or.inl (by simp[O.cut])⟩
 .rw[h1];have d:s.len<=g:=by rw[h1]at j;exact j
  refine⟨?_,by simp[O.cut];omega,Or.inr ⟨f,g,l.drop (n*a)++tail,?_,h2,?_,?_⟩⟩
  .simp only[O.cut,O.iS,gG,XW];have:n*a<=s.len*a:=dh _ m;omega
  .simp[O.cut]
  .rw[<-fC,dm];exact h3
  .rw[<-fC,dm];exact h4
end
def iA.append{i:Nat->Nat}{g:E}{k n:Nat}{c:List Ce}{v:Nat}{s x:O}{p d:List Ce}{K:O->E->Prop}(h:iA i g k c.length n s p)(u:∀a,g.size<=a->i a=0)
 (l:d.length=x.len*c.length)(C:fX g x.D x.off d)(j:(s.len+x.len)*v<=140737488355328)
 (t:∀w q f,iA w f k c.length n q (p++d)->dz (λz=>z=n) i g w f->K q f):jM g k c v s x K:=by
 have H:=h.le
 refine⟨d,l,C,λF=>?_,λG=>⟨j,p,h.len,h.iF,λf w=>?_⟩⟩
 .rcases h.aG with D|⟨a,f,tail,h1,h2,h3,h4⟩
  .have y:x.len=0:=V
   have B:d=[]:=List.length_eq_zero_iff.1 (by rw[l,y];simp)
   subst B
   refine⟨λz A=>by simp at A,?_⟩
   have q:=t i s _ (by rw[dO];exact h) (dz.aA _ u)
   cases s with
   |nil=>exact q
   |zT a o I=>exact q
   |mk a o I f=>simp only[y,jF];exact q
  .have y:=h.len
   have B:s.cap=f:=by rw[h1];rfl
   rw[h1]
   simp only[O.jB,O.tH,O.iS,cE]
   simp only[ba]at h4
   have A:d.length<=tail.length:=by
    have z:(s.len+x.len)*c.length<=f*c.length:=dh _ V;rw[gL]at z;omega
   refine⟨h3.eC (by simp only[ba];omega),?_⟩
   have q:=cw.ag (m:=g) (b:=a) (e:=k) (r:=d) (o:=s.len*c.length) h3
   rw[<-y,Cd p d tail A]at q
   refine t i _ _ ⟨?_,?_,Or.inr ⟨a,f,tail.drop d.length,rfl,h2,?_,?_⟩⟩ (dz.ag u h2 _ _)
   .simp only[ba,O.iS,gL];omega
   .simp only[O.iS,O.Ov];omega
   .rw[<-y];exact q
   .simp only[ba,List.length_drop];omega
 .refine t (λa=>if a=g.size then n else i a) _ _ ⟨?_,?_,Or.inr ⟨g.size,f,nE c (f -(s.len+x.len)),rfl,aL,cw.push _ _ _,?_⟩⟩ ⟨aL,λa j=>ae V,λa j=>?_,λa j _=>by rw[mR,ae V]⟩
  .simp only[ba,O.iS,gL,h.len,l]
  .simpa using w
  .simp only[ba,rT,h.len,l]
   rw[Nat.sub_mul,<-gL]
   have:(s.len+x.len)*c.length<=f*c.length:=dh _ w
   omega
  .simp at j;rw[ae V];exact u a V
def iA.gK{d:Nat->Nat}{i m:E}{e f k:Nat}{s:O}{l:List Ce}(h:gY i m e f s l)(g:s≠.nil->d s.D=k):iA d m e f k s l:=by
 refine⟨h.len,?_,?_⟩
 .rcases h.aG with a|⟨b,c,tail,a,h2,h3,h4,h5⟩
  .rw[a];exact ad _
  .rw[a];exact h5
 .rcases h.aG with a|⟨b,c,tail,a,h2,h3,h4,h5⟩
  .rw[a];exact Or.inl rfl
  .refine Or.inr ⟨b,c,tail,a,?_,h3,h4⟩;have:=g (by rw[a];simp);rw[a]at this;exact this
def iA.nT{e:Nat->Nat}{m:E}{k:Nat}{s:O}{l:List Int}(h:iA e m aD 1 k s (l.map Ce.i))(g:l.length<=9223372036854775807):ar m s l:=by
 have d:s.len=l.length:=by have:=h.len;simp at this;omega
 refine⟨d,h.le,V,λj x c=>⟨[.i x],rfl,λi f a=>?_⟩⟩;have b:i=0:=by have:=az a;simp at this;omega
 subst b;simp at a;subst a;have:=h.iF j (.i x) (by simp[c]);simpa using this
def Ax(l:List Int)(i:Nat)(v:Int):js (l.map Ce.i) i [.i v]=(l.set i v).map Ce.i:=by simp[js,ug]
def iA.gR{a:Nat->Nat}{m:E}{k:Nat}{s:O}{l:List Int}(h:iA a m aD 1 k s (l.map Ce.i))(b:0<=i)(c:i<l.length)(v:Int):iA a (ag m s.D (s.off+i.toNat*1) [.i v]) aD 1 k s ((Go.Proofs.YtkoifinbblcbiaaGreat.gR l i v).map Ce.i):=by
 have:=h.set (o:=i.toNat) (new:=[.i v]) bJ;rw[Ax]at this;rw[iu];exact this
def iA.Po{a:Nat->Nat}{m:E}{k:Nat}{s:O}{l:List Int}(h:iA a m aD 1 k s (l.map Ce.i))(b:0<=i)(c:i<l.length):eC m s.D (s.off+i.toNat*1) 1:=by
 rw[iu];exact h.wr bJ
def FB(m:E)(f:O)(l:List Int):Prop:=∃c tail,f=.mk f.D 0 f.len c/\cw m f.D aD (l.map Ce.i++tail)
def FN(N:Nat)(a:Nat->Nat)(m:E)(f:O)(l:List Int):Prop:=l≠[]->a f.D=0/\N<=f.D/\FB m f l
def yo(N:Nat)(b:Nat->Nat)(m:E)(a:List Ce)(c:bO):Prop:=∃f,a=[.i c.aQ,.i c.kG,.s f]/\ar m f c.aN/\FN N b m f c.aN
def Xu(e:List (List Ce)):Prop:=∀(i j:Nat)(c d:List Ce)(a b:O),e[i]? =some c->e[j]? =some d->c[2]? =some (.s a)->d[2]? =some (.s b)->i≠j->a.len≠0->b.len≠0->a.D≠b.D
def Xu.nil:Xu []:=λi j c d a b h=>by simp at h
def dS(N:Nat)(b:Nat->Nat)(m:E)(c:O)(h:List bO):Prop:=∃a,iA b m nD 3 3 c a.flatten/\gE 3 (yo N b m) a h/\Xu a
def Ts(a:Nat->Nat)(m:E)(i:Nat)(b:List Ce)(f:aU):Prop:=
 ∃r o h,b=[.i f.eg,.i f.pc,.i f.dst,.s r,.s o,.s h]/\iA a m aD 1 (10+3*i) r (f.an.map Ce.i)/\iA a m aD 1 (11+3*i) o (f.aR.map Ce.i)/\iA a m aD 1 (12+3*i) h (f.aY.map Ce.i)
structure ZZ(ro:Nat->Nat)(m:E)(fr:O)(fs:List aU)(css:List (List Ce)):Prop where
 pB:iA ro m cL 6 4 fr css.flatten
 len:css.length=fs.length
 size:∀cs∈css,cs.length=6
 dx:∀(i:Nat)(cs:List Ce)(f:aU),css[i]? =some cs->fs[i]? =some f->Ts ro m i cs f
def pw(d:Nat->Nat)(m:E)(b:O)(c:List aU):Prop:=∃a,ZZ d m b c a
def iO{m b:E}{l:List Int}(h:ar m f l)(j:l≠[]->b[f.D]? =m[f.D]?):ar b f l:=by
 by_cases a:l=[]
 .subst a;exact⟨h.len,h.cap,h.iC,aL⟩
 .exact⟨h.len,h.cap,h.iC,λo x n=>let⟨d,e,g⟩:=h.iF o x n;⟨d,e,λi c k=>by rw[aJ (j a)];exact g i c k⟩⟩
def iP{m:E}{l:List Int}(h:ar m f l)(a:l≠[]):f.D<m.size:=by
 cases l with
 |nil=>exact absurd rfl a
 |cons b l=>exact mW (h.aG (k:=0) (x:=b) rfl)
def yo.eY{N:Nat}{k l:Nat->Nat}{m j:E}(c:dz p k m l j)(h:¬p 0)(e:List Ce)(d:bO):yo N k m e d->yo N l j e d:=λ⟨f,q,b,i⟩=>
 ⟨f,q,iO b λa=>c.dQ _ (iP b a) (by rw[(i a).1];exact h),λa=>by
  let⟨g1,g2,n,tail,o,g⟩:=i a;exact⟨by rw[c.jc _ (iP b a)];exact g1,g2,n,tail,o,g.congr (c.dQ _ g.lt (by rw[g1];exact h))⟩⟩
def dS.eY{N:Nat}{p:Nat->Prop}{d e:Nat->Nat}{m c:E}{b:O}{h:List bO}(n:dS N d m b h)(a:dz p d m e c)(g:¬p 0)(k:¬p 3):dS N e c b h:=by
 let⟨f,i,j,l⟩:=n;exact⟨f,i.eY a k,j.mono (yo.eY a g),l⟩
def Ts.eY{p:Nat->Prop}{e g:Nat->Nat}{m d:E}(a:dz p e m g d){i:Nat}(b:∀k,10+3*i<=k->k<=12+3*i->¬p k){c:List Ce}{f:aU}:Ts e m i c f->Ts g d i c f:=λ⟨r,o,h,j,k,l,n⟩=>
 ⟨r,o,h,j,k.eY a (b _ V V),l.eY a (b _ V V),n.eY a (b _ V V)⟩
def pw.eY{p:Nat->Prop}{g j:Nat->Nat}{m e:E}{a:O}{b:List aU}(r:pw g m a b)(c:dz p g m j e)(d:∀k,(k=4\/10<=k)->¬p k):pw j e a b:=by
 let⟨n,h⟩:=r;exact⟨n,h.pB.eY c (d 4 V),h.len,h.size,λi l f o q=>(h.dx i l f o q).eY c λk s _=>d k V⟩
structure qA(m0:E)(ro:Nat->Nat)(m:E)(mb e:Nat)(bx:List Ce)(aW hp fr:O)(lo:List Int)(lh:List bO)(lf:List aU):Prop where
 cv:J m0 m
 jA:∀b,b<m0.size->ro b=0
 new:∀b,m.size<=b->ro b=0
 box:cw m mb e bx
 NV:ro mb=1
 aW:iA ro m aD 1 2 aW (lo.map Ce.i)
 heap:dS m0.size ro m hp lh
 av:pw ro m fr lf
section
variable{j:E}{b g:Nat->Nat}{a c:E}{d e:Nat}{h:List Ce}{aW l k:O}{r:List Int}{q:List bO}{o:List aU}
def qA.ext(L:qA j b a d e h aW l k r q o)(g:J a c):qA j b c d e h aW l k r q o/\To b a b c:=by
 have f:∀p,dz p b a b c:=λp=>dz.eT p g L.new;exact⟨⟨L.cv.trans g,L.jA,(f (λ_=>False)).new,L.box.ext g,L.NV,L.aW.eY (f (λ_=>False)) id,L.heap.eY (f (λ_=>False)) id id,L.av.eY (f (λ_=>False)) λ_ _=>id⟩,f _⟩
def qA.jw(L:qA j b a d e h aW l k r q o)(i:Nat)(c:List Ce):qA j b (ag a d i c) d e (js h i c) aW l k r q o/\To b a b (ag a d i c):=by
 have f:dz (λg=>g=1) b a b (ag a d i c):=dz.ag L.new L.NV _ _;have n:To b a b (ag a d i c):=f.mono λg p=>V;let⟨b1,b2⟩:=n.cv L.cv L.jA;exact⟨⟨b1,b2,f.new,cw.ag (m:=a) L.box,L.NV,L.aW.eY f be,L.heap.eY f be be,L.av.eY f λg p=>V⟩,n⟩
def qA.mD(L:qA j b a d e h aW l k r q o){i:Nat}(c:i+n<=h.length):eC a d i n:=L.box.eC c
def qA.gD(L:qA j b a d e h aW l k r q o)(f:dz (λi=>i=3\/i=5\/i=6) b a g c){m:O}{p:List bO}(s:dS j.size g c m p):qA j g c d e h aW m k r p o/\To b a g c:=by
 have n:To b a g c:=f.mono λi t=>V;let⟨b1,b2⟩:=n.cv L.cv L.jA;exact⟨⟨b1,b2,f.new,L.box.congr (f.dQ _ L.box.lt (by rw[L.NV];decide)),by rw[f.jc _ L.box.lt];exact L.NV,L.aW.eY f be,s,L.av.eY f λi t=>V⟩,n⟩
def qA.LV(L:qA j b a d e h aW l k r q o)(f:dz (λi=>i=2) b a g c){p:O}{n:List Int}(s:iA g c aD 1 2 p (n.map Ce.i)):qA j g c d e h p l k n q o/\To b a g c:=by
 have m:To b a g c:=f.mono λi t=>V;let⟨b1,b2⟩:=m.cv L.cv L.jA;exact⟨⟨b1,b2,f.new,L.box.congr (f.dQ _ L.box.lt (by rw[L.NV];decide)),by rw[f.jc _ L.box.lt];exact L.NV,s,L.heap.eY f be be,L.av.eY f λi t=>V⟩,m⟩
def qA.jJ(L:qA j b a d e h aW l k r q o)(f:dz (λi=>4<=i/\i≠9) b a g c){m:O}{p:List aU}(s:pw g c m p):qA j g c d e h aW l m r q p/\To b a g c:=by
 have n:To b a g c:=f.mono λi t=>V;let⟨b1,b2⟩:=n.cv L.cv L.jA;exact⟨⟨b1,b2,f.new,L.box.congr (f.dQ _ L.box.lt (by rw[L.NV];decide)),by rw[f.jc _ L.box.lt];exact L.NV,L.aW.eY f be,L.heap.eY f be be,s⟩,n⟩
end
end
section
variable{α:Type}{k:Nat}
def up{α:Type}(f:Nat->α)(k:Nat)(x:α):Nat->α:=λj=>if j=k then x else f j
@[simp] theorem Hk (f:Nat->α) (k:Nat) (x:α):up f k x k=x:=aj rfl
def QC(f:Nat->α)(k:Nat)(x:α){j:Nat}(h:j≠k):up f k x j=f j:=ae h
def Qp(a:Nat->O):List Ce:=[.s (a 0),.s (a 1),.s (a 2),.s (a 3),.s (a 4),.s (a 5),.s (a 6)]
def Tb(a:Nat->O)(b:k<7):(Qp a)[k]? =some (.s (a k)):=by
 rcases k with _|_|_|_|_|_|_|k<;>first|rfl|omega
def NY(a:Nat->O)(b:k<7)(r:O):js (Qp a) k [.s r]=Qp (up a k r):=by
 rcases k with _|_|_|_|_|_|_|k<;>first|rfl|omega
structure ju(ro:Nat->Nat)(m:E)(lb:Nat)(sl:Nat->O)(L:Nat->List Int):Prop where
 new:∀b,m.size<=b->ro b=0
 jc:ro lb=8
 box:cw m lb BL (Qp sl)
 pB:∀k,k<7->iA ro m aD 1 (k+1) (sl k) ((L k).map Ce.i)
section
variable{d g:Nat->Nat}{a f:E}{c:Nat}{b:Nat->O}{L:Nat->List Int}
def ju.bU(h:ju d a c b L){k:Nat}(e:k<7):af a c k=some (O.v (b k)):=by
 rw[h.box.bU,Tb b e];rfl
def ju.nT(h:ju d a c b L){k:Nat}(e:k<7)(f:(L k).length<=10^12):ar a (b k) (L k):=(h.pB k e).nT V
def ju.len(h:ju d a c b L){k:Nat}(e:k<7):(b k).len=(L k).length:=by have:=(h.pB k e).len;simp at this;omega
def ju.to(h:ju d a c b L):To d a d a:=dz.aA _ h.new
def ju.ext(h:ju d a c b L)(e:J a f):ju d f c b L:=
 ⟨λi l=>h.new i (bX e.size l),h.jc,h.box.congr (e.same c h.box.lt),λk g=>(h.pB k g).dQ (λj=>e.same _ ((h.pB k g).D j).1) λ_=>rfl⟩
def ju.kL(p:ju d a c b L)(s:k<7)(C:(L k).length<=10^12)(j:Int){K:O->E->Prop}
 (B:∀g r f,To d a g (ag f c k [.s r])->ju g (ag f c k [.s r]) c (up b k r) (up L k (L k++[j]))->K r f):
 jM (a.push (.cells (bA [.i j]) aD)) aD [.i 0] 8 (b k) (.mk a.size 0 1 1) λr f=>eC f c k 1/\K r f:=by
 have z:=J.push a (.cells (bA [.i j]) aD)
 have h:=p.ext z
 have D:=p.len s
 refine iA.append (c:=[.i 0]) (d:=[.i j]) (h.pB k s) h.new aL ((cw.push a (e:=aD) (l:=[.i j])).iF) (by simp only[O.iS];omega) λg r f v n=>?_
 have x:cw f c BL (Qp b):=h.box.congr (n.dQ c h.box.lt (by simp only[h.jc];omega))
 have o:g c=8:=by rw[n.jc c h.box.lt,h.jc]
 have A:To d a g f:=(dz.eT _ z p.new).trans (n.mono λt y=>V)
 have u:To d a g (ag f c k [.s r]):=A.trans (dz.ag n.new (by simp only[o];omega) _ _)
 refine⟨x.eC (by show k+1<=7;omega),B g r f u ⟨u.new,o,NY b s r▸cw.ag (m:=f) x,λt y=>?_⟩⟩
 by_cases i:t=k
 .subst i
  rw[Hk,Hk,fN]
  refine v.dQ (λq=>bo _ _ _ _ λi=>?_) λ_=>rfl
  have:=(v.D q).2
  rw[i,o]at this;omega
 .rw[QC _ _ _ i,QC _ _ _ i]
  have w:=(h.pB t y).eY n V
  refine w.dQ (λq=>bo _ _ _ _ λi=>?_) λ_=>rfl
  have:=(w.D q).2
  rw[i,o]at this;omega
def ju.put(h:ju d a c b L){i:Nat}(r:k<7)(n:i<(L k).length)(x:Int):
 eC a (b k).D ((b k).off+i*1) 1/\ju d (ag a (b k).D ((b k).off+i*1) [.i x]) c b (up L k ((L k).set i x))/\To d a d (ag a (b k).D ((b k).off+i*1) [.i x]):=by
 have g:=h.pB k r
 have s:(L k).map Ce.i≠[]:=λe=>by simp at e;rw[e]at n;simp at n
 have f:(b k).cap≠0:=λf=>s (g.Dp f).1
 let⟨t,j⟩:=g.D f
 have l:To d a d (ag a (b k).D ((b k).off+i*1) [.i x]):=dz.ag h.new (by simp only[j];omega) _ _
 refine⟨g.wr bJ,⟨l.new,h.jc,h.box.congr (bo _ _ _ _ λe=>by have:=h.jc;rw[e,j]at this;omega),λp q=>?_⟩,l⟩
 by_cases e:p=k
 .subst e
  rw[Hk]
  have:=g.set (o:=i*1) (new:=[.i x]) bJ
  rw[Ax,iu]at this
  rw[iu];exact this
 .rw[QC _ _ _ e]
  have m:=h.pB p q
  refine m.dQ (λf=>bo _ _ _ _ λe=>?_) λ_=>rfl
  have:=(m.D f).2
  rw[e,j]at this;omega
def ju.XH(h:ju d a c b L)(j:k<7){r:O}{l:List Int}(o:iA d a aD 1 (k+1) r (l.map Ce.i)):
 eC a c k 1/\ju d (ag a c k [.s r]) c (up b k r) (up L k l)/\To d a d (ag a c k [.s r]):=by
 have f:To d a d (ag a c k [.s r]):=dz.ag h.new (by simp only[h.jc];omega) _ _
 refine⟨h.box.eC (by show k+1<=7;omega),⟨f.new,h.jc,NY b j r▸cw.ag (m:=a) h.box,λn g=>?_⟩,f⟩
 have K:∀{i s l},iA d a aD 1 (i+1) s l->i<7->iA d (ag a c k [.s r]) aD 1 (i+1) s l:=λ{i s l} g' hk'=>by
  refine g'.dQ (λp=>bo _ _ _ _ λe=>?_) λ_=>rfl;have:=(g'.D p).2;rw[e,h.jc]at this;omega
 by_cases e:n=k
 .subst e
  rw[Hk,Hk];exact K o j
 .rw[QC _ _ _ e,QC _ _ _ e];exact K (h.pB n g) g
def ju.cut(h:ju d a c b L){k n:Nat}(e:k<7)(l:n<=(L k).length):
 n<=(b k).cap/\eC a c k 1/\ju d (ag a c k [.s ((b k).cut 0 n 1)]) c (up b k ((b k).cut 0 n 1)) (up L k ((L k).take n))/\To d a d (ag a c k [.s ((b k).cut 0 n 1)]):=by
 have g:=h.pB k e
 have i:=h.len e
 have j:=g.le
 have f:=g.cut (n:=n) V
 rw[iu,<-Of]at f
 exact⟨V,h.XH e f⟩
end
structure qv(ds:List bz)(n b:Nat)(L:Nat->List Int):Prop where
 len:∀k,k<6->(L k).length=n
 XG:∀(v:Nat)(p:Int),(L 2)[v]? =some p->p<v
 Pn:∀(v:Nat)(c f:Int),(L 3)[v]? =some c->(L 4)[v]? =some f->0<=c->0<=f/\f+((cF ds c).length:Int)<=b
 cO:(L 6).length<=10^12
abbrev sP(a:List bz)(n:Nat)(L:Nat->List Int):Prop:=qv a n n L
def Ld(L:Nat->List Int)(t o p:Int):Nat->List Int:=up (up (up (up (up (up L 0 (L 0++[t])) 1 (L 1++[o])) 2 (L 2++[p])) 3 (L 3++[-1])) 4 (L 4++[-1])) 5 (L 5++[-1])
def AU{j:Nat->Nat}{m:E}{b:Nat}{x:Nat->O}{L:Nat->List Int}(h:ju j m b x L)(a:∀k,k<6->(L k).length<=10^12)(t o p:Int):
 aM cq 264 [vp b 0,vi t,vi o,vi p] m λ_ i=>∃l y,To j m l i/\ju l i b y (Ld L t o p):=by
 apply xS (b,0)
 simp -zeta only[cE]
 refine⟨_,h.bU (k:=0) be,?_⟩
 intro z
 refine h.kL (k:=0) be (a 0 be) t λN U G n c=>⟨_,c.bU (k:=1) be,?_⟩
 intro A
 refine c.kL (k:=1) be (a 1 be) o λP V H q d=>⟨_,d.bU (k:=2) be,?_⟩
 intro B
 refine d.kL (k:=2) be (a 2 be) p λQ W I r e=>⟨_,e.bU (k:=3) be,?_⟩
 intro C
 refine e.kL (k:=3) be (a 3 be) (-1) λR X J s f=>⟨_,f.bU (k:=4) be,?_⟩
 intro D
 refine f.kL (k:=4) be (a 4 be) (-1) λS Y K u g=>⟨_,g.bU (k:=5) be,?_⟩
 intro F
 exact g.kL (k:=5) be (a 5 be) (-1) λT Z M v w=>⟨_,_,((((n.trans q).trans r).trans s).trans u).trans v,w⟩
end
section
variable{l:List Int}{d:Nat->Nat}{a:E}{P:(Nat->List Int)->Prop}{b:Nat}{v:Int}
def GI.aW{S:List Nat}{n m:E}{s:O}(h:GI S n m s l):gY n m aD 1 s (l.map Ce.i):=by
 have u:=h.len be;let⟨r,d,o,a⟩:=h;have t:d.flatten.length=l.length:=by rw[cp a.size,a.len];omega
 have q:d.flatten=l.map Ce.i:=by
  apply iL;intro e;rcases aZ e l.length with b|b
  .let⟨x,k⟩:=dZ b;let⟨f,j⟩:=cK d e (by rw[a.len];exact b);have p:f=[.i x]:=a.dx e f x j k;have g:=fV (g:=1) a.size j (i:=0) (c:=.i x) (by rw[p];rfl);simp only[iu,jF]at g;rw[g];simp[k]
  .rw[da V,da (by simpa using b)]
 rw[<-q];exact o
def Cj(f:Nat->Nat)(m:E)(e:Nat)(P:(Nat->List Int)->Prop)(v:Value)(a:E):Prop:=∃(b:Bool)(d:Nat->Nat),v=vb b/\To f m d a/\(b=true->∃g c,ju d a e g c/\P c)
def Cj.no{b:Nat->Nat}{m:E}{c:Nat}(h:To b m d a):Cj b m c P (vb false) a:=⟨false,d,rfl,h,aL⟩
def Cj.Pp{c:Nat->Nat}{m:E}{b:Nat}{e:Nat->O}{L:Nat->List Int}(h:To c m d a)(f:ju d a b e L)(g:P L):Cj c m b P (vb true) a:=⟨true,d,rfl,h,λ_=>⟨e,L,f,g⟩⟩
def Cj.mono{e:Nat->Nat}{m:E}{c:Nat}{Q:(Nat->List Int)->Prop}{v:Value}(h:Cj e m c P v a)(n:∀L,P L->Q L):Cj e m c Q v a:=let⟨b,d,f,g,i⟩:=h;⟨b,d,f,g,λl=>let⟨o,L,j,k⟩:=i l;⟨o,L,j,n L k⟩⟩
def qv.aR{a:List bz}{n:Nat}{L:Nat->List Int}(h:qv a n b L)(g:l.length=n):qv a n b (up L 1 l):=
 ⟨λk d=>by by_cases e:k=1<;>simp_all [up,h.len k],λv p=>by simpa[up]using h.XG v p,λv c f=>by simpa[up]using h.Pn v c f,by simpa[up]using h.cO⟩
def qv.tok{a:List bz}{n:Nat}{L:Nat->List Int}(h:qv a n b L)(g:l.length=n):qv a n b (up L 5 l):=
 ⟨λk d=>by by_cases e:k=5<;>simp_all [up,h.len k],λv p=>by simpa[up]using h.XG v p,λv c f=>by simpa[up]using h.Pn v c f,by simpa[up]using h.cO⟩
def Lb{b x:Int}{v:Nat}(h:(l++[b])[v]? =some x):l[v]? =some x\/v=l.length/\x=b:=by
 rcases aZ v l.length with a|a
 .rw[ax a]at h;exact Or.inl h
 .rw[aF a]at h;have:=az h;simp at this;have e:v=l.length:=V;subst e;simp at h;exact Or.inr ⟨rfl,h.symm⟩
def qv.DH{c:List bz}{n a:Nat}{L:Nat->List Int}(h:qv c n b L)(j:b<=a):qv c n a L:=
 ⟨h.len,h.XG,λv d f g i e=>oh (h.Pn v d f g i e),h.cO⟩
def qv.OF{f:List bz}{n:Nat}{L:Nat->List Int}(h:qv f n b L)(u t:Int){p:Int}(r:p<n):qv f (n+1) b (Ld L u t p):=by
 have a:=h.len;refine⟨λk w=>?_,λv q s=>?_,λv e g j m i=>?_,by simpa[Ld,up]using h.cO⟩
 .rcases k with _|_|_|_|_|_|k<;>first|omega|(simp[Ld,up,a])
 .have d:(L 2++[p])[v]? =some q:=by simpa[Ld,up]using s
  rcases Lb d with c|⟨rfl,rfl⟩
  .exact h.XG v q c
  .rw[a 2 be];exact r
 .have l:(L 3++[-1])[v]? =some e:=by simpa[Ld,up]using j
  have o:(L 4++[-1])[v]? =some g:=by simpa[Ld,up]using m
  rcases Lb l with c|⟨rfl,rfl⟩
  .rcases Lb o with d|⟨d,rfl⟩
   .have:=h.Pn v e g c d i;omega
   .have:=az c;rw[a 4 be]at d;rw[a 3 be]at this;omega
  .omega
section
variable{f:Nat->Nat}{m:E}{e:Nat}{g:Nat->O}{L:Nat->List Int}{h:List bz}{c:Nat}
def ju.aG(h:ju f m e g L){k:Nat}(b:k<7)(c:(L k).length<=10^12){i:Nat}{x:Int}(a:(L k)[i]? =some x):af m (g k).D ((g k).off+i*1)=some (vi x):=(h.nT b c).aG a
def vd(a:ju f m e g L)(q:sP h c L)(u:c<=10^12)(b:0<=v)(s:v<c):aM cq 265 [vp e 0,vi v] m (Cj f m e λd=>∃l:List Int,l.length=c/\d=up L 1 l):=by
 apply xV (e,0);simp -zeta only[cE];have o:=q.len 1 be;have t:=a.len (k:=1) be;let⟨x,r⟩:=cK (L 1) v.toNat;have j:=a.aG be V r;have d:=a.bU (k:=1) be;let⟨w,p,n⟩:=a.put (k:=1) (i:=v.toNat) be V (cR (x -1));exact⟨_,d,b,V,x,j,λ_=>.no a.to,λ_=>⟨_,d,_,d,b,V,x,j,b,V,w,.Pp n p ⟨_,by simp[o],rfl⟩⟩⟩
def sY(q:ju f m e g L)(j:sP h c L)(t:c<=10^12)(i:0<=v)(o:v<c):oX 225 [vp e 0,vi v] m:=by
 apply wN (e,0);refine⟨λv a=>0<=v/\v<(c:Int)/\J m a,λv _=>v.toNat,⟨i,o,J.aA _⟩,?_⟩;rintro v A ⟨i,o,d⟩;have H:=q.ext d;have w:=H.len (k:=1) be;have z:=H.len (k:=2) be;have C:=j.len 1 be;have D:=j.len 2 be;let⟨x,s⟩:=cK (L 1) v.toNat;let⟨y,p⟩:=cK (L 2) v.toNat;have u:=j.XG _ _ p;refine⟨_,H.bU (k:=1) be,i,V,x,H.aG be V s,λ_=>⟨_,H.bU (k:=6) be,?_⟩,λ_=>rA d⟩;refine(dw (H.nT (k:=6) be j.cO) v).then λb B _ l=>⟨_,rfl,λ_=>?_,λ_=>rA (d.trans l)⟩;have n:=H.ext l;refine⟨_,n.bU (k:=2) be,i,V,y,n.aG be V p,λ_=>rA (d.trans l),λr=>?_⟩;simp only[bD]at r;exact⟨⟨V,V,d.trans l⟩,by show y.toNat<v.toNat;omega⟩
def Md(i:ju f m e g L)(u:sP h c L)(R:c<=10^12){b:Nat}(H:b<=c):aM cq 338 [vp e 0,vi b] m (Cj f m e λd=>(∀j,j<6->(d j).length=b)/\(d 6).length<=10^12):=by
 apply zj (e,0);simp -zeta only[cE];refine⟨λv a=>(b:Int)<=v/\v<=c/\a=m,λv _=>((c:Int) -v).toNat,⟨V,V,rfl⟩,?_⟩;rintro v W ⟨P,p,rfl⟩;have o:=λj(G:j<6)=>i.len (k:=j) V;have d:=u.len;have S:=o 0 be;have T:=o 1 be;have U:=o 5 be;have n0:=d 0 be;have n1:=d 1 be;have n5:=d 5 be;refine⟨_,i.bU (k:=0) be,λw=>?_,λw=>?_⟩
 .simp only[aq]at w;let⟨x,q⟩:=cK (L 1) v.toNat;let⟨y,r⟩:=cK (L 5) v.toNat;refine⟨_,i.bU (k:=1) be,V,V,x,i.aG be V q,λ_=>.no i.to,λ_=>⟨_,i.bU (k:=5) be,V,V,y,i.aG be V r,λ_=>.no i.to,λ_=>?_⟩⟩;rw[aP V V];exact⟨⟨V,V,rfl⟩,by show((c:Int) -(v+1)).toNat<((c:Int) -v).toNat;omega⟩
 .have tk:∀{l:List Int},l.length=c->(l.take b).length=b:=λQ=>bJ;have D:Int.toNat (0:Int)=0:=rfl;have E:Int.toNat (b:Int)=b:=V;rw[D,E];let⟨p1,I,p,x⟩:=i.cut (k:=0) (n:=b) be (by rw[d 0 be];exact H);refine⟨_,i.bU (k:=0) be,V,V,V,I,?_⟩;intro X;let⟨p2,J,q,y⟩:=p.cut (k:=1) (n:=b) be (by simp[up,d];omega);refine⟨_,p.bU (k:=1) be,V,V,V,J,?_⟩;intro Y;let⟨p3,K,r,z⟩:=q.cut (k:=2) (n:=b) be (by simp[up,d];omega);refine⟨_,q.bU (k:=2) be,V,V,V,K,?_⟩;intro Z;let⟨p4,M,s,A⟩:=r.cut (k:=3) (n:=b) be (by simp[up,d];omega);refine⟨_,r.bU (k:=3) be,V,V,V,M,?_⟩;intro m5;let⟨p5,N,t,B⟩:=s.cut (k:=4) (n:=b) be (by simp[up,d];omega);refine⟨_,s.bU (k:=4) be,V,V,V,N,?_⟩;intro m6;let⟨p6,O,F,C⟩:=t.cut (k:=5) (n:=b) be (by simp[up,d];omega);refine⟨_,t.bU (k:=5) be,V,V,V,O,?_⟩;intro m7;refine Cj.Pp (((((x.trans y).trans z).trans A).trans B).trans C) F ⟨λj G=>?_,?_⟩
  .rcases j with _|_|_|_|_|_|j<;>first|omega|(simp[up,d];omega)
  .simpa[up]using u.cO
end
end
section
variable{a:Nat->Nat}{m d c:E}{X:List Nat}
def Yw(m:E)(P:(Nat->List Int)->Prop)(v:Value)(c:E):Prop:=∃d,v=vp d 0/\J m c/\∃a e L,(∀b,b<m.size->a b=0)/\ju a c d e L/\P L
def Nf{t:Nat}{sl:Nat->O}{L:Nat->List Int}(h:ju a m t sl L)(S:∀b,b<7->(L b).length<=10^12):
 aM cq 325 [vp t 0] m (Yw m λc=>∀b,b<7->c b=L b):=by
 apply vF (t,0)
 simp -zeta only[cE]
 refine⟨_,h.bU (k:=0) be,_,h.bU (k:=1) be,_,h.bU (k:=2) be,_,h.bU (k:=3) be,_,h.bU (k:=4) be,_,h.bU (k:=5) be,_,h.bU (k:=6) be,?_⟩
 have C:∀{M:E}(b:Nat),b<7->J m M->ln 66 [O.v (sl b)] M [] (L b=·):=λb z y=>bR [] ((h.ext y).nT z (S b z)) (S b z)
 have c:∀{M H:E},J m M->J M H->∀B,af H t B=af M t B:=λy x' B=>aJ (x'.same t (y.lt h.box.lt)) B
 have i:=J.aA m
 refine(C 0 be i).then λU _ m1 I e d=>⟨_,rfl,c i d _,c i d _,c i d _,c i d _,c i d _,c i d _,?_⟩
 subst e
 refine(C 1 be d).then λW _ m2 g1 e j=>⟨_,rfl,c d j _,c d j _,c d j _,c d j _,c d j _,?_⟩
 subst e
 have u:=d.trans j
 refine(C 2 be u).then λX _ m3 g2 e l=>⟨_,rfl,c u l _,c u l _,c u l _,c u l _,?_⟩
 subst e
 have x:=u.trans l
 refine(C 3 be x).then λY _ m4 K e n=>⟨_,rfl,c x n _,c x n _,c x n _,?_⟩
 subst e
 have D:=x.trans n
 refine(C 4 be D).then λZ _ m5 N e o=>⟨_,rfl,c D o _,c D o _,?_⟩
 subst e
 have G:=D.trans o
 refine(C 5 be G).then λs5 _ m6 P e p=>⟨_,rfl,c G p _,?_⟩
 subst e
 have u6:=G.trans p
 refine(C 6 be u6).then λs6 _ v Q e q=>⟨_,rfl,?_⟩
 subst e
 intro w
 have r:J v w:=J.push _ _
 have z0:=i.size;have z1:=d.size;have z2:=j.size;have z3:=l.size;have z4:=n.size;have z5:=o.size;have z6:=p.size;have z7:=q.size
 have s8:w.size=v.size+1:=by simp[w]
 have y0:=I.bh;have y1:=g1.bh;have y2:=g2.bh;have y3:=K.bh;have y4:=N.bh;have y5:=P.bh;have y6:=Q.bh
 let f:Nat->Nat:=λg=>if g<m.size then 0 else if g<m1.size then 1 else if g<m2.size then 2 else if g<m3.size then 3 else if g<m4.size then 4 else if g<m5.size then 5 else if g<m6.size then 6 else if g<v.size then 7 else if g=v.size then 8 else 0
 let ab:Nat->O:=λb=>if b=0 then U else if b=1 then W else if b=2 then X else if b=3 then Y else if b=4 then Z else if b=5 then s5 else s6
 have A:∀{m0 M:E}{F:O}{T:List Int}{b:Nat},GI [] m0 M F T->J M w->f F.D=b->iA f w aD 1 b F (T.map Ce.i):=λaa y hr=>iA.gK (aa.aW.ext y) λ_=>hr
 refine⟨v.size,rfl,u6.trans (q.trans r),f,ab,L,λg R=>aj R,⟨λg R=>?_,?_,cw.push _ _ _,λb z=>?_⟩,λ_ _=>rfl⟩
 .simp only[f]
  repeat rw[ae V]
 .simp only[f]
  repeat rw[ae V]
  simp
 .rcases b with _|_|_|_|_|_|_|b
  .exact A (F:=U) (b:=1) I (j.trans (l.trans (n.trans (o.trans (p.trans (q.trans r)))))) (by simp only[f];rw[ae V,aj V])
  .exact A (F:=W) (b:=2) g1 (l.trans (n.trans (o.trans (p.trans (q.trans r))))) (by simp only[f];rw[ae V,ae V,aj V])
  .exact A (F:=X) (b:=3) g2 (n.trans (o.trans (p.trans (q.trans r)))) (by simp only[f];rw[ae V,ae V,ae V,aj V])
  .exact A (F:=Y) (b:=4) K (o.trans (p.trans (q.trans r))) (by simp only[f];rw[ae V,ae V,ae V,ae V,aj V])
  .exact A (F:=Z) (b:=5) N (p.trans (q.trans r)) (by simp only[f];rw[ae V,ae V,ae V,ae V,ae V,aj V])
  .exact A (F:=s5) (b:=6) P (q.trans r) (by simp only[f];rw[ae V,ae V,ae V,ae V,ae V,ae V,aj V])
  .exact A (F:=s6) (b:=7) Q r (by simp only[f];rw[ae V,ae V,ae V,ae V,ae V,ae V,ae V,aj V])
  .omega
structure Hv(d:E)(X:List Nat)(a:Nat->Nat)(m:E):Prop where
 ext:J d m
 gJ:∀b,b<d.size->a b=0
 box:∀b∈X,b<m.size/\a b=0
def Hv.to{g:Nat->Nat}(h:Hv d X a m)(e:To a m g c):Hv d X g c:=by
 let⟨i,j⟩:=e.cv h.ext h.gJ;exact⟨i,j,λb f=>⟨aO (h.box b f).1 e.size,by rw[e.jc b (h.box b f).1];exact(h.box b f).2⟩⟩
def Hv.dv{d m c:E}{X:List Nat}{a e:Nat->Nat}(h:Hv d X a m)(b:To a m e c):dY X m c:=b.dv h.box
def Hv.jT(h:Hv d X a m)(x:J m c):Hv d X a c:=⟨h.ext.trans x,h.gJ,λb e=>⟨x.lt (h.box b e).1,(h.box b e).2⟩⟩
def Iz{p I aa:O}{q:gP}(s:ar m p q.params)(F:ar m I q.cO)(ad:q.params.length<=3)(ac:q.cO.length<=3)(w:List bz):
 aM cq 243 [.agg #[O.v p,O.v I,vi q.aT,O.v aa,vi q.body.aT]] m (Yw m (sP w q.params.length)):=by
 apply Be
 simp -zeta only[aC,aB]
 intro e
 have v:J m e:=J.push _ _
 have s1:e.size=m.size+1:=by simp[e]
 have W:∀b∈[m.size],b<e.size:=by simp[e]
 clear_value e
 refine(bR [] (F.ext v) V).aK (J.aA e) W λs6 _ f D o K _=>⟨_,rfl,?_⟩
 subst o
 intro t
 have P:J f t:=J.push _ _
 have s3:t.size=f.size+1:=by simp[t]
 have z2:=K.size
 have y6:=D.bh
 let h:Nat->Nat:=λb=>if b<e.size then 0 else if b<f.size then 7 else if b=f.size then 8 else 0
 let d:Nat->List Int:=λk=>if k<6 then[]else q.cO
 let r:Nat->O:=λk=>if k<6 then .nil else s6
 have R:ju h t f.size r d:=by
  refine⟨λb l=>?_,?_,cw.push _ _ _,λk B=>?_⟩
  .simp only[h];repeat rw[ae V]
  .simp only[h];repeat rw[ae V]
   simp
  .by_cases g:k<6
   .simp only[r,d,aj g];exact⟨aL,aL,Or.inl rfl⟩
   .have o:k=6:=V;subst o;simp only[r,d,ae g];refine iA.gK (D.aW.ext P) λ_=>?_;simp only[h];rw[ae V,aj V]
 have T:sP w 0 d:=by
  refine⟨λk B=>by simp only[d,aj B];rfl,λg p s=>by simp[d]at s,λg j i z=>by simp[d]at z,by simp[d];omega⟩
 have gJ:∀b,b<e.size->h b=0:=λb l=>aj l
 clear_value h d r
 have ag:=s.len
 refine fm (n:=q.params.length) V (λk M=>∃a C L,Hv e [m.size] a M/\ju a M f.size C L/\sP w k L) ⟨h,r,d,⟨K.trans P,gJ,λb l=>by simp at l;subst l;exact⟨V,gJ _ V⟩⟩,R,T⟩ ?_
 rintro k M S μ B ⟨a,C,L,i,H,A⟩ Z
 refine dit (λU=>?_) λU=>?_
 .let⟨y,X⟩:=cK q.params k
  have N:∀(u:Int){g:E},J M g->aM cq 264 [vp f.size 0,vi y,vi u,vi (-1:Int)] g λ_ c=>dY [m.size] g c/\S (cR ((k:Int)+1)) c/\μ (cR ((k:Int)+1)) c<μ k M:=λu g x=>
   (AU (H.ext x) (λY Q=>by rw[A.len Y Q];omega) y u (-1)).mono λ_ c⟨Y,ab,j,Q⟩=>⟨(i.jT x).dv j,Z V _ ⟨Y,ab,_,(i.jT x).to j,Q,(A.OF y u V).DH V⟩⟩
  have G:∀{g:E},J M g->af g p.D (p.off+Int.toNat (k:Int)*1)=some (vi y):=λx=>(s.ext (v.trans (i.ext.trans x))).aG X
  refine⟨V,V,y,G (J.aA _),λ_=>?_,λ_=>⟨V,V,y,G (J.aA _),N 0 (J.aA _)⟩⟩
  refine(dw (F.ext (v.trans i.ext)) (k:Int)).then λb M2 _ x=>⟨λj z=>x.same j (i.box j z).1,_,rfl,λ_=>⟨V,V,y,G x,N 1 x⟩,λ_=>⟨V,V,y,G x,N 0 x⟩⟩
 .have o:k=q.params.length:=V
  subst o
  exact⟨f.size,rfl,v.trans i.ext,a,C,L,λb l=>i.gJ b V,H,A⟩
end
section
def ju.VU{b:Nat->Nat}{m f:E}{q:Nat}{a:Nat->O}{L:Nat->List Int}(h:ju b m q a L)(gJ:∀c,c<f.size->b c=0){k p:Nat}(l:k<7)(c:p<(L k).length):f.size<=(a k).D/\(a k).D<m.size/\b (a k).D=k+1:=by
 have g:=h.pB k l;have o:(L k).map Ce.i≠[]:=λe=>by simp at e;rw[e]at c;simp at c
 let⟨j,d⟩:=g.D λi=>o (g.Dp i).1;refine⟨Hq λn=>?_,j,d⟩;rw[gJ _ n]at d;omega
def Hv.TO{c m a g:E}{d:Nat->Nat}{o1 o2:Obj}(j:J c m)(gJ:∀b,b<c.size->d b=0)(k:∀b,m.size<=b->d b=0)(e:a=m.push o1)(h:g=a.push o2):Hv c [a.size,m.size] d g:=by
 let⟨l,i⟩:=dP e h;subst e;exact⟨j.trans l,gJ,λb f=>⟨i b f,k b (by simp at f;omega)⟩⟩
section
variable{e:Nat->Nat}{m b:E}{g:Nat}{p:Nat->O}{L:Nat->List Int}{f:List bz}{l:List gP}{h:Nat}{d r a o:O}{x:cV}{c:Prop}{q:Nat}
def Qs(hx:J b m)(gJ:∀u,u<b.size->e u=0)(K:ju e m g p L)(N:sP f h L)(hn:h<=10^12)(hN:eK b d r f l)(ha:ar b a x.args)(hf:U7 f q c h x)(an:14<=x.op):
 aM cq 266 [vp g 0,.agg #[O.v d,O.v r],pA x a o] m (Cj e m g (sP f h)):=by
 apply xT (g,0)
 simp -zeta only[aC,aB,cE]
 intro P Q
 have st:=Hv.TO (a:=P) (g:=Q) hx gJ K.new rfl rfl
 have x2:J m Q:=(dP (a:=P) (c:=Q) rfl rfl).1
 have W:To e m e Q:=dz.eT _ x2 K.new
 clear_value Q
 clear_value P
 have D:=K.ext x2
 have aA:=ha.len
 have az:=hf.kX (Or.inl an)
 let⟨A,hy⟩:=cK x.args 0
 let⟨G,y1⟩:=hf.args A (au hy)
 have U:=N.len
 have n1:=U 1 be;have n3:=U 3 be;have n4:=U 4 be;have n5:=U 5 be
 have l3:=D.len (k:=3) be;have l5:=D.len (k:=5) be
 let⟨B,ae⟩:=cK (L 3) A.toNat
 let⟨v,ag⟩:=cK (L 4) A.toNat
 let⟨tk,ap⟩:=cK (L 5) A.toNat
 refine⟨be,V,A,(ha.ext st.ext).aG hy,?_⟩
 refine⟨λM=>0<=B/\∃R af s,s.length=h/\To e m R M/\Hv b [P.size,m.size] R M/\ju R M g af (up L 1 s),?_,?_⟩
 .refine⟨_,D.bU (k:=3) be,G,V,B,D.aG be V ae,λ_=>.no W,λw=>?_⟩
  simp only[bD]at w
  refine⟨λ_=>⟨_,D.bU (k:=5) be,G,V,tk,D.aG be V ap,λ_=>.no W,λ_=>?_⟩,λ_=>?_⟩<;>
  .refine(vd D N hn G y1).mono λax m3⟨u,R,ac,H,y⟩=>⟨st.dv H,u,ac,λC=>.no (W.trans H),λC=>?_⟩
   obtain⟨af,z,t,s,hl,rfl⟩:=y (by simpa using C)
   exact⟨V,R,af,s,hl,W.trans H,st.to H,t⟩
 .rintro m3 ⟨al,aa,F,s,hl,H,S,y⟩
  have e3:(up L 1 s) 3=L 3:=rfl
  have e4:(up L 1 s) 4=L 4:=rfl
  have e5:(up L 1 s) 5=L 5:=rfl
  have e1:(up L 1 s) 1=s:=rfl
  have av:=y.len (k:=3) be
  rw[e3]at av
  let⟨f0,f1⟩:=N.Pn A.toNat B v ae ag al
  refine⟨_,y.bU (k:=3) be,G,V,B,y.aG be (by rw[e3];omega) ae,?_⟩
  have A1:=y.VU (f:=b) S.gJ (k:=1) (p:=A.toNat) be (by rw[e1];omega)
  have A5:=y.VU (f:=b) S.gJ (k:=5) (p:=A.toNat) be (by rw[e5];omega)
  have hS:∀u∈[(F 1).D,(F 5).D],u<m3.size:=λu C=>by simp at C;omega
  have ak:∀{M:E},J b M->Le b (bP [(F 1).D,(F 5).D] M):=λxx=>(Al b).trans (xx.bP λu C=>Or.inr (by simp at C;omega))
  refine(dN hS (hN.bn.le (ak S.ext)) hN.types B).mono λax m4⟨aj,fl,ac,hs,am,x4⟩=>⟨λu C=>x4.same u (S.box u C).1,aj,ac,?_⟩
  subst am
  have c4:To e m aa m4:=H.trans (dz.eT _ x4 y.new)
  have aE:=hs.len
  have f3:=FO hN.types B
  refine fm (n:=(cF f B).length) V (λz M=>∃s,s.length=h/\To e m aa M/\Hv b [P.size,m.size] aa M/\ju aa M g F (up L 1 s)/\Fz [(F 1).D,(F 5).D] m4 M) ⟨s,hl,c4,(S.jT x4),(y.ext x4),Fz.aA _ _⟩ ?_
  rintro z M ay μ aD ⟨w,Z,X,ab,t,ad⟩ ai
  have ao:=hs.le (ad.dg λ_ K=>K)
  refine⟨λah=>?_,λah=>?_⟩
  .simp only[aq]at ah
   let⟨aw,hz⟩:=cK (cF f B) z
   refine⟨V,V,aw,(ao.le (bG _ _)).aG hz,λ_=>?_,λ_=>ai V _ ⟨w,Z,X,ab,t,ad⟩⟩
   have E3:(up L 1 w) 4=L 4:=rfl
   have E1:(up L 1 w) 1=w:=rfl
   have G1:=t.bU (k:=1) be
   have G4:=t.bU (k:=4) be
   have l4:=t.len (k:=4) be
   have l1:=t.len (k:=1) be
   rw[E3]at l4;rw[E1]at l1
   have V4:=t.aG (k:=4) be (by rw[E3];omega) ag
   have ew:cR (v+(z:Int))=v+z:=aP V V
   let⟨T,hw⟩:=cK w ((v+(z:Int)).toNat)
   let⟨wr,Y,I⟩:=t.put (k:=1) (i:=(v+(z:Int)).toNat) be (by rw[E1];omega) (cR (T+1))
   refine⟨_,G1,_,G4,G,V,v,V4,_,G1,_,G4,G,V,v,V4,?_⟩
   rw[ew]
   refine⟨V,V,T,t.aG (k:=1) be (by rw[E1];omega) hw,V,V,wr,ab.dv I,ai V _ ⟨w.set (v+(z:Int)).toNat (cR (T+1)),by simp[Z],X.trans I,ab.to I,?_,ad.ag (Or.inl aL) _ _⟩⟩
   have:up (up L 1 w) 1 ((up L 1 w) 1|>.set (v+(z:Int)).toNat (cR (T+1)))=up L 1 (w.set (v+(z:Int)).toNat (cR (T+1))):=by funext j;simp only[up];split<;>rfl
   rw[this]at Y;exact Y
  .refine⟨λ_=>?_,λ_=>.Pp X t (N.aR Z)⟩
   have T:(up L 1 w) 5=L 5:=rfl
   have aw:=t.len (k:=5) be
   rw[T]at aw
   let⟨wr,Y,I⟩:=t.put (k:=5) (i:=A.toNat) be (by rw[T];omega) (aj.len:Int)
   exact⟨_,t.bU (k:=5) be,G,V,wr,ab.dv I,.Pp (X.trans I) Y ((N.aR Z).tok (by rw[T];simp[n5]))⟩
def JW(hx:J b m)(gJ:∀j,j<b.size->e j=0)(Q:ju e m g p L)(hi:sP f h L)(hn:h<=10^12)(hN:eK b d r f l)(B:ar b a x.args)(D:U7 f l.length c h x):
 aM cq 268 [vp g 0,.agg #[O.v d,O.v r],pA x a o] m (Cj e m g (sP f h)):=by
 apply tU (g,0)
 simp -zeta only[aC,aB,cE]
 intro K H
 have st:=Hv.TO (a:=K) (g:=H) hx gJ Q.new rfl rfl
 have x2:J m H:=(dP (a:=K) (c:=H) rfl rfl).1
 have c2:To e m e H:=dz.eT _ x2 Q.new
 clear_value H
 clear_value K
 have aa:=B.len
 have Z:∀{M:E},J b M->At M d r a o f l x:=λxx=>⟨hN.le xx.le,B.ext xx,D.call⟩
 refine fm (n:=x.args.length) (aa▸B.iC) (λ_ M=>∃t T N,sP f h N/\To e m t M/\Hv b [K.size,m.size] t M/\ju t M g T N) ⟨e,p,L,hi,c2,st,(Q.ext x2)⟩ ?_
 rintro ab M ag μ ah ⟨S,af,Y,v,P,C,s⟩ ad
 refine⟨λF=>?_,λF=>?_⟩
 .simp only[aq]at F
  let⟨I,G⟩:=cK x.args ab
  let⟨W,X⟩:=D.args I (au G)
  have N0:=v.len 0 be
  refine⟨_,s.bU (k:=0) be,?_⟩
  refine(mN (Z C.ext) (s.nT (k:=0) be V) (by rw[N0];exact D.args) (h:=ab) V).mono λU m4⟨j,z,q⟩=>⟨λj u=>q.same j (C.box j u).1,j,z,λ_=>⟨V,V,I,(B.ext (C.ext.trans q)).aG G,?_⟩,λ_=>ad V _ ⟨S,af,Y,v,P.trans (dz.eT _ q s.new),C.jT q,s.ext q⟩⟩
  have w:=C.jT q
  have y:To e m S m4:=P.trans (dz.eT _ q s.new)
  refine(vd (s.ext q) v hn W X).mono λU m5⟨j,t,z,A,h5⟩=>⟨w.dv A,j,z,λu=>.no (y.trans A),λu=>?_⟩
  obtain⟨T,N,R,ac,hl,rfl⟩:=h5 (by simpa using u)
  exact ad V _ ⟨t,T,_,v.aR hl,y.trans A,w.to A,R⟩
 .refine fm (n:=x.args.length) (aa▸B.iC) (λ_ t=>J M t) (J.aA _) ?_
  rintro T M4 I4 μ4 ai q ac
  have w:=C.jT q
  have y:To e m S M4:=P.trans (dz.eT _ q s.new)
  have t:=s.ext q
  refine⟨λF=>?_,λF=>⟨λae=>?_,λ_=>.Pp y t v⟩⟩
  .simp only[aq]at F
   let⟨I,G⟩:=cK x.args T
   let⟨W,X⟩:=D.args I (au G)
   refine(og (Z w.ext) (T:Int)).mono λU m5⟨j,z,A⟩=>⟨λj u=>A.same j (w.box j u).1,j,z,λ_=>⟨V,V,I,(B.ext (w.ext.trans A)).aG G,?_⟩,λ_=>ac V _ (q.trans A)⟩
   refine(sY (t.ext A) v hn W X).mono λU m6⟨j,z,N⟩=>⟨λj u=>N.same j (A.lt (w.box j u).1),j,z,λ_=>.no (y.trans (dz.eT _ (A.trans N) t.new)),λ_=>ac V _ ((q.trans A).trans N)⟩
  .simp only[aq]at ae
   have I:=D.bM
   have u:=v.len 5 be
   have N:=t.len (k:=5) be
   have z:cR (x.bM -1)=x.bM -1:=aP V V
   let⟨G,A⟩:=cK (Y 5) ((x.bM -1).toNat)
   let⟨wr,R,j⟩:=t.put (k:=5) (i:=(x.bM -1).toNat) be V (-1)
   rw[z]
   exact⟨_,t.bU (k:=5) be,V,V,G,t.aG (k:=5) be V A,λ_=>.no y,λ_=>⟨_,t.bU (k:=5) be,V,V,wr,w.dv j,.Pp (y.trans j) R (v.tok (by simp[u]))⟩⟩
end
end
section
variable{M:E}
def NW(a:Nat->Nat)(m:E):List Nat:=(List.range m.size).filter λb=>a b≠0
def Qk(c:Nat->Nat)(m:E):∀b∈NW c m,b<m.size:=λb a=>by simp[NW]at a;exact a.1
def Ta{d:Nat->Nat}{m a:E}(gJ:∀b,b<a.size->d b=0)(e:J a M):Le a (bP (NW d m) M):=
 (Al a).trans (e.bP λb c=>Or.inr (by
  simp[NW]at c;exact Hq λh=>c.2 (gJ b h)))
def dz.aad{a l:Nat->Nat}{m f:E}(h:To a f l M)(k:∀b,m.size<=b->a b=0):Le (bP (NW a m) f) M:=λb o v j=>by
 let⟨d,e⟩:=eF.1 j;have i:=mW e;have g:a b=0:=by
  rcases aZ b m.size with c|c
  .simp[NW]at d;exact d c
  .exact k b c
 rw[aJ (h.dQ b i (by simp[g]))];exact e
def RK(c:List bz)(h:List gP)(i:Prop)(b:Bk):Prop:=∀(e:Nat->Nat)(m a:E)(d:Nat)(l:Nat->O)(L:Nat->List Int)(n k:Nat)(g r t:O),J a m->(∀b,b<a.size->e b=0)->ju e m d l L->sP c n L->WB c h.length i n b->n+4*b.w<=10^12->k<=n->eK a g r c h->eN a t b.ap->
 aM cq 326 [vp d 0,.agg #[O.v g,O.v r],.agg #[O.v t,vi b.aT],vi k] m (Cj e m d λf=>(∀j,j<6->(f j).length=k)/\(f 6).length<=10^12)
def Xq(m:E)(n:Nat)(v:Value)(c:E):Prop:=∃(a:Nat)(d:Bool),v=.tuple #[vp a 0,vb d]/\J m c/\(d=true->∃e f L,(∀b,b<m.size->e b=0)/\ju e c a f L/\∀j,j<6->(L j).length=n)
def qv.same{c:List bz}{n b:Nat}{L a:Nat->List Int}(h:qv c n b L)(e:∀k,k<7->a k=L k):qv c n b a:=
 ⟨λk d=>by rw[e k V];exact h.len k d,by rw[e 2 be];exact h.XG,by rw[e 3 be,e 4 be];exact h.Pn,by rw[e 6 be];exact h.cO⟩
section
variable{o:Nat->Nat}{m g:E}{j:Nat}{f:Nat->O}{L:Nat->List Int}{e:List bz}{h:List gP}{b:Nat}{d r a l:O}{x:cV}{c:Prop}
def Rx(hx:J g m)(aF:ju o m j f L)(hi:sP e b L)(P:eK g d r e h)(ha:ar g a x.args)(hk:nP g l x.bE)(hw:WS e h.length c b x)(t:b+4*x.w<=10^12){ab:Nat}{p:Bk}(aa:x.bE[ab]? =some p)(ih:RK e h c p):
 aM cq 307 [vp j 0,.agg #[O.v d,O.v r],pA x a l,vi ab] m (Xq m b):=by
 apply zk (j,0)
 simp -zeta only[aC,aB,cE]
 intro I D
 let⟨x2,hl⟩:=dP (a:=I) (c:=D) rfl rfl
 clear_value D
 clear_value I
 have h2:=aF.ext x2
 have ao:=hi.len
 have l0:=h2.len (k:=0) be
 have n0:=ao 0 be
 have aY:=az aa
 have aZ:=hk.len
 have aX:=xr aa
 have a2:=cV.mz x
 have Y:=hw.bE ab p aa
 have w:=hx.trans x2
 let⟨ae,ht,f0,f1⟩:=hk.aG aa
 refine⟨_,h2.bU (k:=0) be,?_⟩
 refine(Nf h2 (λu hj=>by
  by_cases A:u<6
  .rw[ao u A];omega
  .have:u=6:=V;subst this;exact hi.cO)).mono λv m3⟨C,z,H,K,aR,s,q,h3,y⟩=>⟨H.VC hl (J.aA _)|>λ_=>λp t=>H.same p (hl p t),(C,0),z,?_⟩
 have R:sP e b s:=hi.same y
 have ai:Hv D [I.size,m.size] K m3:=⟨H,q,λp t=>⟨H.lt (hl p t),q p (hl p t)⟩⟩
 have iy:∀(M:E)(ac:Nat->Nat)(ah:Nat->O)(X:Nat->List Int)(F:Nat),Hv D [I.size,m.size] ac M->ju ac M C ah X->sP e F X->WB e h.length c F p->F<=b+3->b<=F->
  aM cq 326 [vp C 0,.agg #[O.v d,O.v r],.agg #[O.v ae,vi p.aT],vi ((f 0).len:Int)] M λv m'=>dY [I.size,m.size] M m'/\∃S:Bool,v=vb S/\Xq m b (.tuple #[vp C 0,vb S]) m':=λM ac ah X F U aA an aG a1 aH=>by
  have e0:(f 0).len=b:=V
  rw[e0]
  refine(ih ac M D C ah X F b d r ae U.ext U.gJ aA an aG V aH (P.le w.le) (ht.le w.le)).mono λv m'⟨S,G,z,c5,N⟩=>⟨U.dv c5,S,z,C,S,rfl,x2.trans (U.to c5).ext,λaJ=>?_⟩
  obtain⟨T,W,A,h7,_⟩:=N aJ
  exact⟨G,T,W,λp t=>(U.to c5).gJ p (x2.lt t),A,h7⟩
 refine⟨λB=>?_,λB=>?_⟩
 .simp only[aE]at B
  have aw:=P.bn.le w.le
  obtain⟨aW,_⟩:=hw.fe.all B
  refine(ic (Qk K m3) (aw.le H.le) P.types x.bQ).mono λv m4⟨s4,l4,z,aK,e4,x4⟩=>⟨λp t=>x4.same p (ai.box p t).1,s4,z,?_⟩
  subst e4
  let⟨q,av⟩:=cK (cx e x.bQ) ab
  have ax:=aK.le (bG _ _)
  have l4:=ax.len
  refine⟨V,V,q,ax.aG av,?_⟩
  have ad:=ai.jT x4
  have h4:=h3.ext x4
  refine(dN (Qk K m4) (aw.le (Ta ad.gJ ad.ext)) P.types q).mono λv m5⟨s5,l5,z,ay,e5,x5⟩=>⟨λp t=>x5.same p (ad.box p t).1,s5,z,?_⟩
  subst e5
  have aj:=ad.jT x5
  have N:=h4.ext x5
  have aU:=hw.fe.kX (Or.inr (Or.inr B))
  let⟨y,hy⟩:=cK x.args 0
  let⟨y0,y1⟩:=hw.fe.args y (au hy)
  have aV:=ha.len
  have N5:=R.len
  have a3:=N.len (k:=3) be
  have F:=N5 3 be;have n4:=N5 4 be
  have ag:∀{M:E},J D M->af M a.D (a.off+Int.toNat (0:Int)*1)=some (vi y):=λxx=>(ha.ext (w.trans xx)).aG hy
  let⟨w6,A,c6⟩:=N.put (k:=3) (i:=y.toNat) be V q
  refine⟨_,N.bU (k:=3) be,V,V,y,ag aj.ext,y0,V,w6,?_⟩
  intro m6
  have al:=aj.to c6
  let⟨w7,h7,c7⟩:=A.put (k:=4) (i:=y.toNat) be (by show _<(s 4).length;omega) ((f 0).len:Int)
  have aL:=A.len (k:=4) be
  have aD:up s 3 ((s 3).set y.toNat q) 4=s 4:=rfl
  rw[aD]at aL
  refine⟨aj.dv c6,_,A.bU (k:=4) be,V,V,y,ag al.ext,y0,V,w7,?_⟩
  intro m7
  have aT:=al.to c7
  have F3:=FO P.types q
  have e0:((f 0).len:Int)=b:=V
  have i7:qv e b (b+(cF e q).length) (up (up s 3 ((s 3).set y.toNat q)) 4 ((s 4).set y.toNat ((f 0).len:Int))):=by
   refine⟨λu hj=>?_,λv aO hp=>R.XG v aO (by simpa[up]using hp),λv c ap hc hf h1=>?_,by simpa[up]using R.cO⟩
   .rcases u with _|_|_|_|_|_|u<;>first|omega|(simp[up,N5])
   .have Q:((s 3).set y.toNat q)[v]? =some c:=by simpa[up]using hc
    have Z:((s 4).set y.toNat ((f 0).len:Int))[v]? =some ap:=by simpa[up]using hf
    by_cases ev:y.toNat=v
    .subst ev;rw[dK V]at Q Z;simp at Q Z;subst Q;omega
    .rw[cz ev]at Q Z;have:=R.Pn v c ap Q Z h1;omega
  have a0:=ay.len
  refine⟨al.dv c7,?_⟩
  refine fm (n:=(cF e q).length) V (λu M=>∃G T W,qv e (b+u) (b+(cF e q).length) W/\To K m5 G M/\Hv D [I.size,m.size] G M/\ju G M C T W) ⟨K,_,_,i7,c6.trans c7,aT,h7⟩ ?_
  rintro u M an μ hj ⟨aQ,aS,L8,Z,c8,C,aq⟩ aN
  refine dit (λaI=>?_) λaI=>?_
  .let⟨am,hz⟩:=cK (cF e q) u
   refine⟨V,V,am,(ay.le (c8.aad h4.new)).aG hz,V,V,y,ag C.ext,?_⟩
   exact(AU aq (λaP Q=>by rw[Z.len aP Q];omega) am 0 y).mono λv M'⟨G,T,Q,h9⟩=>⟨C.dv Q,aN V _ ⟨G,T,_,by rw[<-dk];exact Z.OF am 0 V,c8.trans Q,C.to Q,h9⟩⟩
  .have Q:u=(cF e q).length:=V
   subst Q
   rw[KK B av]at Y
   exact⟨V,V,ae,(w.trans C.ext).af f0,p.aT,(w.trans C.ext).af f1,iy M aQ aS L8 _ C aq Z Y V V⟩
 .simp only[ak]at B
  rw[KL B]at Y
  exact⟨V,V,ae,(w.trans H).af f0,p.aT,(w.trans H).af f1,iy m3 K aR s b ai h3 R Y V V⟩
end
end
section
def _root_.Go.Vc.Wf{n b:Nat}(g:b<=n)(o:n<=9223372036854775807){m:E}{e:(Int->E->Prop)->(Int->E->Nat)->Int->E->Prop}(Q:Nat->E->Prop)(f:Q b m)
 (h:∀(k:Nat)(a:E)(I:Int->E->Prop)(μ:Int->E->Nat),b<=k->k<=n->Q k a->
  (k<n->∀c,Q (k+1) c->I (cR ((k:Int)+1)) c/\μ (cR ((k:Int)+1)) c<μ k a)->e I μ k a):
 ∃(I:Int->E->Prop)(μ:Int->E->Nat),I b m/\∀i a,I i a->e I μ i a:=by
 refine⟨λi c=>∃k:Nat,i=k/\b<=k/\k<=n/\Q k c,λi _=>(n -i).toNat,⟨b,rfl,ad _,g,f⟩,?_⟩
 rintro i a ⟨k,rfl,j,l,p⟩
 refine h k a _ _ j l p λd c q=>?_
 rw[kW d o]
 exact⟨⟨k+1,rfl,V,d,q⟩,Gj d⟩
section
variable{b:Nat->Nat}{m f:E}{e:Nat}{o:Nat->O}{L:Nat->List Int}{g:List bz}{l:List gP}{h:Nat}{d r i j:O}{x:cV}{c:Prop}
def Nc(hx:J f m)(gJ:∀p,p<f.size->b p=0)(t:ju b m e o L)(hi:sP g h L)(hN:eK f d r g l)(ha:ar f i x.args)(hk:nP f j x.bE)(P:WS g l.length c h x)(q:h+4*x.w<=10^12)(ap:x.op=7\/x.op=8)(ih:∀p∈x.bE,RK g l c p):
 aM cq 267 [vp e 0,.agg #[O.v d,O.v r],pA x i j] m (Cj b m e (sP g h)):=by
 apply vE (e,0)
 simp -zeta only[aC,aB,cE]
 intro X I
 have st:=Hv.TO (a:=X) (g:=I) hx gJ t.new rfl rfl
 let⟨Q,D⟩:=dP (a:=X) (c:=I) rfl rfl
 clear_value I
 clear_value X
 have am:=hk.len
 have aG:=ha.len
 have aE:=P.fe.kX V
 have an:0<x.bE.length:=by
  rcases ap with U|h8
  .have:=P.fe.Km U;omega
  .exact(P.fe.all h8).2
 have N:∀{M:E},J I M->To b m b M:=λz=>dz.eT _ (Q.trans z) t.new
 have ag:∀(M:E)(H:Nat)(p:Bk),J I M->x.bE[H]? =some p->aM cq 307 [vp e 0,.agg #[O.v d,O.v r],pA x i j,vi H] M (Xq M h):=λM H p z ah=>
  Rx (hx.trans (Q.trans z)) (t.ext (Q.trans z)) hi hN ha hk P q ah (ih p (au ah))
 refine⟨λM=>J I M,⟨λ_=>?_,λ_=>J.aA _⟩,?_⟩
 .let⟨y,u⟩:=cK x.args 0
  let⟨w,A⟩:=P.fe.args y (au u)
  refine⟨be,V,y,(ha.ext st.ext).aG u,?_⟩
  exact(sY (t.ext Q) hi V w A).mono λZ Y⟨p,s,v⟩=>⟨λp q=>v.same p (D p q),p,s,λ_=>.no (N v),λ_=>v⟩
 .intro Y v
  let⟨b0,al⟩:=dZ an
  refine(ag Y 0 b0 v al).mono λZ m4⟨ac,ay,s,R,h1⟩=>⟨λp q=>R.same p (v.lt (D p q)),(ac,0),ay,s,λ_=>.no (N (v.trans R)),λab=>?_⟩
  let⟨az,ad,L1,ai,h1,n1⟩:=h1 (by simpa using ab)
  have av:=n1 1 be;have aw:=n1 5 be
  refine Wf (n:=x.bE.length) (b:=1) V (am▸hk.iC) (λ_ M=>J m4 M) (J.aA _) ?_
  rintro H M aA μ aF aH S ax
  have y:=(v.trans R).trans S
  have A:=h1.ext S
  refine⟨λW=>?_,λW=>?_⟩
  .simp only[aq]at W
   let⟨p,q⟩:=cK x.bE H
   refine(ag M H p y q).mono λZ m6⟨aa,ak,s,u,C⟩=>⟨λp q=>u.same p (y.lt (D p q)),(aa,0),ak,s,λ_=>.no (N (y.trans u)),λab=>?_⟩
   let⟨aL,aN,L2,aK,C,n2⟩:=C (by simpa using ab)
   have ao:=n2 1 be;have aI:=n2 5 be
   have B:=A.ext u
   refine⟨_,B.bU (k:=1) be,_,C.bU (k:=1) be,?_⟩
   refine(qO (B.nT (k:=1) be V) (C.nT (k:=1) be V)).mono λZ m7⟨F,s,_,w⟩=>⟨λp q=>w.same p (u.lt (y.lt (D p q))),F,s,λ_=>.no (N (y.trans (u.trans w))),λ_=>?_⟩
   have T:=B.ext w
   have U:=C.ext w
   refine⟨_,T.bU (k:=5) be,_,U.bU (k:=5) be,?_⟩
   refine(qO (T.nT (k:=5) be V) (U.nT (k:=5) be V)).mono λZ m8⟨F,s,_,K⟩=>⟨λp q=>K.same p (w.lt (u.lt (y.lt (D p q)))),F,s,λ_=>.no (N (y.trans (u.trans (w.trans K)))),λ_=>?_⟩
   exact ax V _ (S.trans (u.trans (w.trans K)))
  .let w:Nat->Nat:=λp=>if p<Y.size then b p else az p
   have uu:=Q.trans v
   have z:=uu.trans (R.trans S)
   have z4:=R.size;have zM:=S.size;have T:=uu.size
   have K:∀p,p<Y.size->w p=b p:=λp q=>aj q
   have H0:ju w M e o L:=by
    refine⟨λp q=>?_,by rw[K _ (aO t.box.lt T)];exact t.jc,(t.ext z).box,λu F=>(t.pB u F).dQ (λB=>z.same _ ((t.pB u F).D B).1) λB=>K _ (aO ((t.pB u F).D B).1 T)⟩;simp only[w];rw[ae V];exact A.new p q
   have aa:∀u,u<7->iA w M aD 1 (u+1) (ad u) ((L1 u).map Ce.i):=λu F=>(A.pB u F).dQ (λ_=>rfl) λB=>by
    have C:=((A.pB u F).D B).2;simp only[w];rw[ae λW=>by rw[ai _ W]at C;omega]
   have c3:To b m w M:=⟨z.size,λp q=>K p (aO q T),H0.new,λp q _=>z.same p q⟩
   have ak:Hv f [X.size,m.size] w M:=⟨st.ext.trans y,λp q=>by rw[K p (aO (aO q hx.size) T)];exact gJ p q,λp q=>⟨y.lt (D p q),by rw[K p (v.lt (D p q))];exact(st.box p q).2⟩⟩
   clear_value w
   refine⟨_,A.bU (k:=1) be,?_⟩
   let⟨w5,h5,c5⟩:=H0.XH (k:=1) be (aa 1 be)
   refine⟨w5,?_⟩
   intro m9
   have ao:ac≠e:=λs=>by
    have h8:=A.jc;rw[s,ai _ (aO t.box.lt T)]at h8;omega
   have G:af m9 ac 5=some (O.v (ad 5)):=(aJ (bo _ _ _ _ ao) _).trans (A.bU (k:=5) be)
   have A5:iA w m9 aD 1 (5+1) (ad 5) ((L1 5).map Ce.i):=by
    refine(aa 5 be).dQ (λB=>bo _ _ _ _ λs=>?_) λ_=>rfl;have:=((aa 5 be).D B).2;rw[s,H0.jc]at this;omega
   let⟨w6,h6,c6⟩:=h5.XH (k:=5) be A5
   exact⟨ak.dv c5,_,G,w6,(ak.to c5).dv c6,.Pp ((c3.trans c5).trans c6) h6 ((hi.aR av).tok aw)⟩
end
end
section
section
variable{b:Nat->Nat}{m g:E}{f:Nat}{l:Nat->O}{L:Nat->List Int}{e:List bz}{h:List gP}{n:Nat}{d r a j:O}{x:cV}{c:Prop}
def GU(hx:J g m)(gJ:∀o,o<g.size->b o=0)(aa:ju b m f l L)(w:sP e n L)(U:eK g d r e h)(D:ar g a x.args)(hk:nP g j x.bE)(F:WS e h.length c n x)(u:n+4*x.w<=10^12)(ih:∀o∈x.bE,RK e h c o):
 aM cq 244 [vp f 0,.agg #[O.v d,O.v r],pA x a j] m (Cj b m f (sP e (n+dn x))):=by
 apply xU (f,0)
 simp -zeta only[aC,aB,cE]
 intro R X
 have S:=Hv.TO (a:=R) (g:=X) hx gJ aa.new rfl rfl
 have x2:J m X:=(dP (a:=R) (c:=X) rfl rfl).1
 clear_value X
 clear_value R
 have h2:=aa.ext x2
 have ao:=D.len
 have ap:=cV.mz x
 have N0:=w.len 0 be
 refine⟨_,h2.bU (k:=0) be,?_⟩
 refine(oE (U.le S.ext.le) (h2.nT (k:=0) be V) (D.ext S.ext) (hk.le S.ext.le) V (λo _=>nA o)).mono λA m3⟨G,t,_,x3⟩=>⟨λo u=>x3.same o (S.box o u).1,G,t,?_⟩
 have s:=S.jT x3
 have C:=h2.ext x3
 have P:To b m b m3:=dz.eT _ (x2.trans x3) aa.new
 have kX:14<=x.op\/x.op=7\/x.op=8->∃y:Int,x.args[0]? =some y/\0<=y/\y<(n:Int):=λho=>by
  have:=F.fe.kX ho;let⟨y,K⟩:=cK x.args 0;exact⟨y,K,F.fe.args y (au K)⟩
 refine⟨λok M=>∃v,To b m v M/\Hv g [R.size,m.size] v M/\(ok=true->∃Z N,ju v M f Z N/\sP e n N),⟨λai=>?_,λaq=>⟨λak=>?_,λav=>⟨λal=>?_,λaw=>⟨λh7=>?_,λn7=>?_⟩⟩⟩⟩,?_⟩
 .simp only[aE]at ai
  let⟨y,K,B,W⟩:=kX V
  have ac:=F.fe.kX V
  have Y:∀{M:E},J g M->af M a.D (a.off+Int.toNat (0:Int)*1)=some (vi y):=λT=>(D.ext T).aG K
  refine⟨be,V,y,Y s.ext,?_⟩
  refine(sY C w V B W).mono λA H⟨o,t,q⟩=>⟨λo u=>q.same o (s.box o u).1,o,t,?_⟩
  have p:=C.ext q
  have z:=s.jT q
  have N1:=w.len 1 be
  have l1:=p.len (k:=1) be
  let⟨ab,ad⟩:=cK (L 1) y.toNat
  let⟨wr,Q,I⟩:=p.put (k:=1) (i:=y.toNat) be V (cR (ab+1))
  exact⟨_,p.bU (k:=1) be,be,V,y,Y z.ext,_,p.bU (k:=1) be,be,V,y,Y z.ext,B,V,ab,p.aG be V ad,B,V,wr,z.dv I,b,(P.trans (dz.eT _ q C.new)).trans I,z.to I,λ_=>⟨l,_,Q,w.aR (by simp[N1])⟩⟩
 .simp only[aE]at ak
  let⟨y,K,B,W⟩:=kX V
  have ac:=F.fe.kX V
  refine⟨be,V,y,(D.ext s.ext).aG K,?_⟩
  refine(vd C w V B W).mono λA H⟨o,v,t,q,p⟩=>⟨s.dv q,o,t,v,P.trans q,s.to q,λu=>?_⟩
  obtain⟨Z,N,Q,ab,Y,rfl⟩:=p u
  exact⟨Z,_,Q,w.aR Y⟩
 .simp only[bV,aE]at al
  refine(Qs s.ext s.gJ C w V U D F.fe V).mono λA H⟨o,v,t,q,p⟩=>⟨s.dv q,o,t,v,P.trans q,s.to q,p⟩
 .simp only[bV,aE]at h7
  refine(Nc s.ext s.gJ C w U D hk F u h7 ih).mono λA H⟨o,v,t,q,p⟩=>⟨s.dv q,o,t,v,P.trans q,s.to q,p⟩
 .refine(JW s.ext s.gJ C w V U D F.fe).mono λA H⟨o,v,t,q,p⟩=>⟨s.dv q,o,t,v,P.trans q,s.to q,p⟩
 .rintro ok M ⟨ax,q,z,p⟩
  refine⟨λ_=>.no q,λan=>?_⟩
  let⟨ay,L4,p,i4⟩:=p (by simpa using an)
  have gr:∀{M':E}(G Y:Int),J M M'->dn x=1->aM cq 264 [vp f 0,vi G,vi Y,vi (-1:Int)] M' λ_ m'=>dY [R.size,m.size] M' m'/\Cj b m f (sP e (n+dn x)) (vb true) m':=λG Y T hd=>
   (AU (p.ext T) (λH B=>by rw[i4.len H B];omega) G Y (-1)).mono λ_ m'⟨v,Z,I,Q⟩=>⟨(z.jT T).dv I,.Pp ((q.trans (dz.eT _ T p.new)).trans I) Q (by rw[hd];exact(i4.OF G Y V).DH V)⟩
  refine(jP x.op M).mono λA m5⟨o,t,ab,B⟩=>⟨λo u=>B.same o (z.box o u).1,o,t,λag=>⟨λ_=>gr G 1 B (by have:=tz x o ab;rw[aj ag]at this;exact this),λ_=>?_⟩,λam=>?_⟩
  .refine(jP x.op m5).mono λA m6⟨N,t,W,H⟩=>⟨λo u=>H.same o (B.lt (z.box o u).1),N,t,λad=>gr 0 0 (B.trans H) (by have:=tz x N W;rw[aj ad]at this;exact this),λac=>?_⟩
   have:=W.2 (ab.1 ag);rw[this]at ac;simp at ac
  .have ah:=tz x o ab
   rw[ae (by simp[am])]at ah
   exact(jP x.op m5).mono λA m6⟨N,t,W,H⟩=>⟨λo u=>H.same o (B.lt (z.box o u).1),N,t,λad=>gr 0 0 (B.trans H) (by have:=tz x N W;rw[aj ad]at this;exact this),λac=>.Pp (q.trans (dz.eT _ (B.trans H) p.new)) (p.ext (B.trans H)) (by rw[ah];exact i4)⟩
end
def Nj{B:List bz}{rs:List gP}{H:Prop}:∀b:Bk,RK B rs H b:=by
 refine Bk.ind ?_;intro ap ac ih r p mb E sl L aa D af am aq Y gJ t Q W o hk O x;simp only[Bk.jW,Bk.jv,Bk.qQ]at*;apply wO (E,0);simp -zeta only[aC,aB,cE];intro q m;have st:=Hv.TO (a:=q) (g:=m) Y gJ t.new rfl rfl;have F:J p m:=(dP (a:=q) (c:=m) rfl rfl).1;have I:To r p r m:=dz.eT _ F t.new;clear_value m;clear_value q;let⟨C,y,r1⟩:=W.aW;simp only[Bk.jW,Bk.jv]at C y r1;have U:=x.len;have T:=BH ap;refine fm (n:=ap.length) (U▸x.iC) (λi M=>∃g s h,sP B (aa+dc (ap.take i)) h/\To r p g M/\Hv mb [q.size,p.size] g M/\ju g M E s h) ⟨r,sl,L,by simpa using Q,I,st,t.ext F⟩ ?_;rintro i M ad μ ah ⟨an,ao,G,f,j,c,d⟩ ab
 have ag:=tw (ap.take i);have ai:=qS i ap;have aj:=fY (ap.take i);refine dit (λS=>?_) λS=>?_
 .let⟨w,l⟩:=cK ap i;let⟨ae,kk,P,R,z,g1,g2,K,N⟩:=x.aG l;have al:=qd l;have ak:=T (i+1);have X:=c.ext;refine⟨V,V,_,X.af z,_,X.af g1,_,X.af g2,_,X.af K,_,X.af N,?_⟩;refine(GU X c.gJ d f O P R (C i w l) V (ih w (au l))).mono λA m4⟨b,g,e,a,u⟩=>⟨c.dv a,b,e,λ_=>.no (j.trans a),λo=>?_⟩;let⟨s,h,v,Z⟩:=u (by simpa using o);exact ab V _ ⟨g,s,h,by rw[(qV l),<-dk];exact Z,j.trans a,c.to a,v⟩
 .have K:i=ap.length:=V;rw[K,fy]at f;have ae:=tw ap;have ak:=fY ap;have Z:=f.len 0 be;have l0:=d.len (k:=0) be;let⟨X,P⟩:=cK (G 0) ac.toNat;refine⟨_,d.bU (k:=0) be,y,V,X,d.aG be V P,λ_=>?_,λ_=>?_⟩
  .refine(vd d f V y V).mono λA m4⟨b,g,e,a,u⟩=>⟨c.dv a,b,e,λ_=>.no (j.trans a),λo=>?_⟩;obtain⟨s,h,v,al,N,rfl⟩:=u (by simpa using o);refine(Md v (f.aR N) V (b:=D) V).mono λA R⟨b,z,e,l,w⟩=>⟨(c.to a).dv l,b,e,b,z,rfl,(j.trans a).trans l,w⟩
  .refine(Md d f V (b:=D) V).mono λA R⟨b,z,e,l,w⟩=>⟨c.dv l,b,e,b,z,rfl,j.trans l,w⟩
def Yo(m:E)(f:List bz)(q:gP)(j:Int)(v:Value)(c:E):Prop:=∃(a:Nat)(d:Bool),v=.tuple #[vp a 0,vb d]/\J m c/\(d=true->0<=j/\j<=q.body.ap.length/\∃e g L,(∀b,b<m.size->e b=0)/\ju e c a g L/\sP f (q.params.length+dc (q.body.ap.take j.toNat)) L)
def EO{m:E}{I T:O}{f:List bz}{z:List gP}{ab:Prop}{W:Nat}(h:eK m I T f z)(P:yK f z ab W)(hW:W<=200000000000){K:Nat}{a:gP}(w:z[K]? =some a){j:Int}(hj: -9000000000000000000<=j/\j<=9000000000000000000):
 aM cq 224 [.agg #[O.v I,O.v T],vi K,vi j] m (Yo m f a j):=by
 apply xR
 simp -zeta only[aC,aB]
 intro k
 have D:J m k:=J.push _ _
 have g:∀b∈[m.size],b<k.size:=by simp[k]
 clear_value k
 have aH:=h.iW.len;have aG:=h.oK
 have aE:=az w
 let⟨ah,af,ak,hw⟩:=P.dx a (au w)
 let⟨aN,aO,b,c1,c2,H,e0,e1,e2,v,e4⟩:=h.iW.aG w
 have x:∀{M:E}{an:Obj},J m M->Yo m f a j (.tuple #[vp M.size 0,vb false]) (M.push an):=λxx=>⟨_,false,rfl,xx.aH _,aL⟩
 refine(Fh (h.le D.le) (λd c=>oh (P.dx d c))).aK (J.aA k) g λv1 m2 F _=>⟨_,rfl,λ_=>x (D.trans F),λ_=>?_⟩
 have Y:=D.trans F
 refine(bF _ _ _ _).aK F g λv2 m3 _ Z v3=>⟨_,rfl,λ_=>x (Y.trans Z),λ_=>?_⟩
 have B:=Y.trans Z
 have ay:=H.len
 refine⟨V,V,_,B.af v,?_⟩
 refine(bF _ _ _ _).aK v3 g λv4 R ac x4 C=>⟨_,rfl,λ_=>x (B.trans x4),λaj=>?_⟩
 have c:=B.trans x4
 have hr:=ac.1 (by simpa using aj)
 refine⟨V,V,_,c.af e0,_,c.af e1,_,c.af e2,_,c.af v,_,c.af e4,?_⟩
 refine(Iz (q:=a) (c1.ext c) (c2.ext c) ah af f).mono λar S⟨t,u,G,y,sl,aa,gJ,L,i5⟩=>⟨λb d=>G.same b (C.lt (g b d)),(t,0),u,?_⟩
 obtain⟨al,_,_⟩:=ak.aW
 have aA:=Bk.mz a.body
 have ai:=BH a.body.ap
 have aq:Hv R [m.size] y S:=⟨G,gJ,λb d=>⟨G.lt (C.lt (g b d)),gJ b (C.lt (g b d))⟩⟩
 have e6:j=((j.toNat:Nat):Int):=V
 obtain⟨s,ad⟩:∃s:Nat,j=s:=⟨j.toNat,e6⟩
 subst ad
 simp only[uf]
 refine fm (n:=s) V (λi M=>∃l A o,sP f (a.params.length+dc (a.body.ap.take i)) o/\To y S l M/\Hv R [m.size] l M/\ju l M t A o) ⟨y,sl,aa,by simpa using i5,L.to,aq,L⟩ ?_
 rintro i M aw μ aF ⟨ao,ap,L6,Q,c6,e,N⟩ am
 have U:J m M:=c.trans e.ext
 refine dit (λag=>?_) λag=>?_
 .let⟨av,r⟩:=cK a.body.ap i
  let⟨ax,kk,ha,ae,g0,g1,g2,g3,g4⟩:=(H.le c.le).aG r
  have X:=e.ext
  have aK:=qd r
  have aJ:=ai (i+1)
  have aD:=tw (a.body.ap.take i)
  have aI:=fY (a.body.ap.take i)
  refine⟨V,V,_,U.af v,V,V,_,X.af g0,_,X.af g1,_,X.af g2,_,X.af g3,_,X.af g4,?_⟩
  refine(GU X e.gJ N Q (h.le c.le) ha ae (al i av r) V (λb _=>Nj b)).mono λar m7⟨b,l,u,p,h7⟩=>⟨e.dv p,b,u,λ_=>⟨t,false,rfl,c.trans (e.to p).ext,aL⟩,λd=>?_⟩
  let⟨A,o,h8,i8⟩:=h7 (by simpa using d)
  exact am V _ ⟨l,A,o,by rw[qV r,<-dk];exact i8,c6.trans p,e.to p,h8⟩
 .have l:i=s:=V
  subst l
  exact⟨t,true,rfl,U,λ_=>⟨V,V,ao,ap,L6,λb d=>e.gJ b (c.lt d),N,by simpa using Q⟩⟩
end
section
variable{f d:Int}{c P:Nat}{m:E}
def Su(a:0<=f)(b:0<d):0<=f.tmod d/\f.tmod d<d:=⟨Int.tmod_nonneg _ a,Int.tmod_lt_of_pos _ b⟩
def Oa(a:0<=f)(b:0<d):0<=f.tdiv d/\f.tdiv d<=f:=by
 rw[ql a];exact⟨Int.ediv_nonneg a V,Int.ediv_le_self _ a⟩
def VM{b:Int}(e:0<=f/\f<4611686018427387904)(g:0<=b/\b<4611686018427387904):0<=VL f b:=by
 unfold VL;have a:(f%18446744073709551616).toNat<2^62:=V;have c:(b%18446744073709551616).toNat<2^62:=V;have d:=Nat.xor_lt_two_pow a c;rw[aP V V];omega
def Rd(c:Nat)(a:O)(P:Nat)(m:E):Prop:=(∃p:Int,cw m c qj [.s a,.i p]/\0<=p/\p<=P)/\a.len<=a.cap/\∀k:Nat,k<a.len->∃v:Int,0<=v/\v<=255/\af (bP [c] m) a.D (a.off+k*1)=some (.int .u8 v)
def Rd.mono{Q:Nat}{a:O}(h:Rd c a P m)(g:P<=Q):Rd c a Q m:=let⟨⟨p,b,d,f⟩,e⟩:=h;⟨⟨p,b,d,V⟩,e⟩
def Rd.lt{c P:Nat}{a:O}{m:E}(h:Rd c a P m):c<m.size:=let⟨⟨_,b,_⟩,_⟩:=h;b.lt
def Rd.OK{f:Nat}{b:O}{e M a:E}(d:Rd c b f e)(h:Rd c b P M)(l:Fz [c] e a)(k:a[c]? =M[c]?):Rd c b P a:=by
 obtain⟨⟨p,g,i,j⟩,_⟩:=h;exact⟨⟨p,g.congr k,i,j⟩,d.2.1,λo m=>let⟨v,q,r,n⟩:=d.2.2 o m;⟨v,q,r,l.dg (λ_ h=>h) _ _ _ n⟩⟩
def Rd.ext{a:O}{d:E}(h:Rd c a P m)(b:J m d):Rd c a P d:=h.OK h (b.fz _) (b.same _ h.lt)
def Rd.ag{c g P:Nat}{a:O}{d M:E}(f:Rd c a g d)(h:Rd c a P M)(j:Fz [c] d M){b:Nat}(i:d.size<=b)(o:Nat)(l:List Ce):Rd c a P (ag M b o l):=
 f.OK h (j.ag (Or.inr i) o l) (bo _ _ _ _ λe=>oh f.lt)
def Yx(c:Nat)(b:O)(P:Nat)(m:E)(d:Int)(v:Value)(a:E):Prop:=∃k:Int,v=vi k/\0<=k/\(k<d\/k=0)/\Rd c b (P+1) a/\Fz [c] m a
def cD{e:O}(s:Rd c e P m)(hP:P<=10^16)(d:Int):aM cq 40 [vp c 0,vi d] m (Yx c e P m d):=by
 let⟨⟨p,t,q,p1⟩,X,E⟩:=s;apply xX (c,0);simp -zeta only[cE];have g1:af m c 1=some (vi p):=t.bU 1;refine⟨p,g1,t.eC aL,?_⟩;intro g;have U:cR (p+1)=p+1:=aP V V;have T:cR (p+1 -1)=p:=by rw[show p+1 -1=p by omega];exact aP V V
 have w:cw g c qj [.s e,.i (p+1)]:=by rw[<-U];exact cw.ag (m:=m) (r:=[.i (cR (p+1))]) (o:=1) t
 have A:Fz [c] m g:=(Fz.aA [c] m).ag (Or.inl aL) _ _;have F:Le (bP [c] m) (bP [c] g):=A.dg λ_ s=>s;clear_value g;have R:∀k:Int,0<=k->(k<d\/k=0)->Yx c e P m d (vi k) g:=λk C D=>⟨k,rfl,C,D,⟨⟨p+1,w,V,V⟩,X,λj f=>let⟨v,i,l,h⟩:=E j f;⟨v,i,l,F _ _ _ h⟩⟩,A⟩;have f:af g c 0=some (O.v e):=w.bU 0;have g1:af g c 1=some (vi (p+1)):=w.bU 1;have B:∀j:Int,0<=j->j<(e.len:Int)->∃v:Int,0<=v/\v<=255/\af g e.D (e.off+j.toNat*1)=some (.int .u8 v):=λj C D=>by
  let⟨v,i,l,h⟩:=E j.toNat V;exact⟨v,i,l,(eF.1 (F _ _ _ h)).2⟩
 refine⟨λ_=>R 0 (cY _) (Or.inr rfl),λZ=>⟨_,f,λ_=>R 0 (cY _) (Or.inr rfl),λY=>?_⟩⟩;simp only[bD]at Z;simp only[ak]at Y;have G:0<d:=V;refine⟨_,g1,_,f,?_⟩;rw[T];refine⟨λz=>?_,λ_=>?_⟩
 .simp only[aq]at z;let⟨v,i,l,h⟩:=B p q z;refine⟨_,f,q,z,v,h,V,?_⟩;rw[aP V V];have:=Su i G;exact R _ this.1 (Or.inl this.2)
 .have y:(0:Int)<(e.len:Int):=V;let⟨I,J⟩:=Su q y;let⟨v,i,l,h⟩:=B _ I J;have S:cR (cR (p*7)+3)=p*7+3:=by rw[aP (b:=p*7) V V,aP V V]
  let⟨K,L⟩:=Su (f:=p*7+3) V y;let⟨u,u0,u1,hu⟩:=B _ K L;let⟨d0,d1⟩:=Oa q y;rw[S];refine⟨_,f,_,f,V,I,J,v,h,_,f,_,f,V,K,L,u,hu,_,f,V,be,V,?_⟩;have M:cR (cR v*131)=v*131:=by rw[aP (b:=v) V V,aP V V]
  have N:cR (cR u*1117)=u*1117:=by rw[aP (b:=u) V V,aP V V]
  have E3:cR (p*29)=p*29:=aP V V;have Q:cR (cR (p.tdiv e.len)*53)=p.tdiv e.len*53:=by rw[aP (b:=p.tdiv e.len) V V,aP V V]
  rw[M,N,E3,Q,aP (b:=v*131+u*1117) V V,aP (b:=v*131+u*1117+p*29) V V,aP (b:=v*131+u*1117+p*29+p.tdiv e.len*53) V V];have H:0<=v*131+u*1117+p*29+p.tdiv e.len*53:=V;let⟨q0,q1⟩:=Oa (d:=64) H be;rw[aP (b:=Int.tdiv _ 64) V V];have W:=VM (f:=v*131+u*1117+p*29+p.tdiv e.len*53) (b:=(v*131+u*1117+p*29+p.tdiv e.len*53).tdiv 64) ⟨H,V⟩ ⟨q0,V⟩;let⟨z0,z1⟩:=Su W G;exact R _ z0 (Or.inl z1)
def k8{a:O}(h:Rd c a P m)(j:P<=10^16){s:O}{l:List Int}(d:ar (bP [c] m) s l)(o:0<l.length):
 aM cq 39 [vp c 0,O.v s] m λv f=>∃k:Int,v=vi k/\k∈l/\Rd c a (P+1) f/\Fz [c] m f:=by
 apply zn (c,0)
 have p:=d.len
 refine(cD h j (s.len:Int)).mono λv r⟨k,g,n,q,i,b⟩=>⟨k,g,n,V,?_⟩
 let⟨x,e⟩:=cK l k.toNat
 exact⟨x,(eF.1 ((b.dg (λ_ h=>h)) _ _ _ (d.aG e))).2,x,rfl,au e,i,b⟩
end
section
variable{d:List Nat}{c:E}
def _root_.Go.Vc.Gr.set{α:Type}{d X:List Nat}{t c:E}{z f:Nat}{R:E->List Ce->α->Prop}{s:O}{y:List α}(w:oH f R)(h:Gr d t c z f R s y)(hf:Fz X t c){k:Nat}(I:k<y.length){cs:List Ce}{a:α}(F:R (bP (s.D::d) c) cs a):
 eC c s.D (s.off+k*f) f/\Gr d t (ag c s.D (s.off+k*f) cs) z f R s (y.set k a)/\Fz X t (ag c s.D (s.off+k*f) cs)/\(∀g,g≠s.D->(ag c s.D (s.off+k*f) cs)[g]? =c[g]?):=by
 have hy:=h.bh
 let⟨C,e,D,j⟩:=h
 have ab:∀g,g≠s.D->(ag c s.D (s.off+k*f) cs)[g]? =c[g]? :=λg Z=>bo _ _ _ _ Z
 let⟨g,i,tail,u,Q,A,S,T⟩:=D.aG.resolve_left C
 have H:=w.len F
 let⟨l,x⟩:=cK e k (by rw[j.len];exact I)
 have af:=j.size l (au x)
 have M:s.off+k*f=k*f:=by rw[u];simp
 have G:s.D=g:=by rw[u];rfl
 have J:=az x
 have N:e=e.take k++l::e.drop (k+1):=by
  have v:=List.getElem?_eq_some_iff.1 x;let⟨W,Y⟩:=v;rw[<-Y,<-qy W,dm]
 have ad:(e.take k).flatten.length=k*f:=by rw[cp λi n=>j.size i (gB n),gG,jd V]
 have ac:e.set k cs=e.take k++cs::e.drop (k+1):=by
  rw[Pq,aj J]
 have aa:js (e.flatten++tail) (k*f) cs=(e.set k cs).flatten++tail:=by
  have U:e.flatten++tail=(e.take k).flatten++(l++((e.drop (k+1)).flatten++tail)):=by
   conv=>lhs;rw[N]
   simp
  rw[U,<-ad,Cd _ _ _ bJ,ac];rw[show cs.length=l.length by omega,List.drop_left];simp
 have L:(e.set k cs).flatten.length=e.flatten.length:=by
  rw[cp (b:=f) λi n=>?_,cp j.size,eE];rcases dp n with h|h
  .exact j.size i h
  .rw[h];exact H
 have K:Le (bP (s.D::d) c) (bP (s.D::d) (ag c s.D (s.off+k*f) cs)):=cB aL λ_ h=>h
 refine⟨?_,⟨C,e.set k cs,⟨by rw[L];exact D.len,Or.inr ⟨g,i,tail,u,Q,?_,?_,T⟩⟩,⟨by simp[j.len],λi n=>?_,λP i ae p q=>?_⟩⟩,hf.ag (Or.inr hy.1) _ _,ab⟩
 .rw[M,G]
  refine A.eC ?_
  have:(e.take k).flatten.length+l.length<=e.flatten.length:=by
   conv=>rhs;rw[N]
   simp
  simp only[ba];omega
 .have v:=cw.ag (m:=c) (b:=g) (r:=cs) (o:=k*f) A
  rw[M,G,<-aa];exact v
 .rw[<-S,ba,ba,L]
 .rcases dp n with h|h
  .exact j.size i h
  .rw[h];exact H
 .by_cases B:k=P
  .subst B
   rw[dK J]at p
   rw[dK I]at q
   simp at p q;subst p q
   exact w.le K F
  .rw[cz B]at p q
   exact w.le K (j.dx P i ae p q)
def Bn(hS:∀a∈d,a<c.size){g C L:O}{S:Int}{ap:List cV}{q:cV}{f:Nat}(s:eN (bP d c) g ap)(ha:ar (bP d c) C q.args)(hk:nP (bP d c) L q.bE)(hj:f<=ap.length)(hb:ap.length<=900000000000):
 aM cq 226 [.agg #[O.v g,vi S],vi f,pA q C L] c λah N=>∃W,ah=.agg #[O.v W,vi S]/\eN (bP d N) W (ap.take f++[q]++ap.drop f)/\J c N:=by
 apply EW
 simp -zeta only[aC,aB]
 intro P h e k
 let⟨r,m,s1,s2,s3⟩:=qB (a:=P) (b:=h) (c:=e) rfl rfl rfl
 have z:J e k:=J.push _ _
 have s4:k.size=e.size+1:=by simp[k]
 have g0:GS (h.size::d) e k (.mk e.size 0 0 0) []:=GS.new _ _
 clear_value k
 clear_value e
 have u4:=r.trans z
 have K:=s.len
 have ak:=s.cap
 have I:∀a∈[h.size,P.size,c.size],a<k.size:=λa b=>z.lt (m a b)
 have H:∀{M:E}{D:Nat},J c M->c.size<=D->Le (bP d c) (bP (D::h.size::d) M):=λxx aj=>xx.bP λa b=>by
  simp only[aS]at b;rcases b with l|l|l
  .exact Or.inr V
  .exact Or.inr V
  .exact Or.inl l
 have X:Int.toNat (0:Int)=0:=rfl
 have Y:Int.toNat (f:Int)=f:=V
 have Z:Int.toNat (g.len:Int)=g.len:=V
 rw[X,Y,Z]
 refine⟨V,V,V,?_⟩
 have ac:eN (bP (e.size::h.size::d) k) (g.cut 0 f 5) (ap.take f):=by simpa using(s.le (H (D:=e.size) u4 V)).KS (i:=0) (eO _) hj
 refine GS.all g0 (z.fz []) ac bJ λT y g1 F z1 q1=>⟨λa b=>q1 a (I a b) (by have:=m a b;simp;omega),V,V,V,?_⟩
 intro Q
 have t:J y Q:=J.push _ _
 have y1:=g1.bh
 have n:J e y:=F.ext
 have A:∀o,af Q c.size o=af y c.size o:=λo=>aJ (t.same _ (oh (I c.size aL))) o
 refine⟨A 1,A 0,?_⟩
 refine GS.kL (x:=q) g1 F (ha.le (H (D:=T.D) (r.trans n) V)) (hk.le (H (D:=T.D) (r.trans n) V)) bJ λU R g2 v z2 q2=>⟨J.oQ (n.trans t) v.ext (λa b=>oh (m a b)),?_⟩
 have p:J e R:=v.ext
 have y2:=g2.bh
 have u:∀{M B:E},J e M->J e B->∀o,af B c.size o=af M c.size o:=λaa h' o=>aJ (by rw[h'.same _ (m _ aL),aa.same _ (m _ aL)]) o
 refine⟨u (n.trans t) p 1,u (n.trans t) p 0,?_⟩
 have ae:eN (bP (U.D::h.size::d) R) (g.cut f g.len 5) (ap.drop f):=by
  have:=(s.le (H (D:=U.D) (r.trans p) V)).KS (i:=f) (j:=g.len) V V;rwa[K,cJ (ad _),<-K]at this
 refine GS.all g2 v ae bJ λr3 m8 G w z3 q3=>⟨J.oQ p w.ext m,u p w.ext 1,?_⟩
 intro m9
 have y3:=G.bh
 have ab:∀a∈h.size::d,a<e.size:=λa b=>by
  rcases List.mem_cons.1 b with l|l
  .omega
  .have:=hS a l;omega
 refine⟨r3,rfl,?_,(r.trans w.ext).ag V _ _⟩
 have hD:=G.done gQ.mono ab be bJ
 have ag:Le (bP (h.size::d) m8) (bP d m9):=cB aL λa b=>ai _ b
 exact eN.le ag (by simpa[fC]using hD)
def Fj(C:∀b∈d,b<c.size){u L p:O}{A:List bz}{w:List gP}{q:gP}{n:Nat}{l:Bk}(i:eK (bP d c) u L A w)(D:w[n]? =some q)(h3:q.params.length<=3/\q.cO.length<=3)(ag:eN (bP d c) p l.ap):
 vn 228 [.agg #[O.v u,O.v L],vi n,.agg #[O.v p,vi l.aT]] c d A λah=>ah=w.set n ⟨q.params,q.cO,q.aT,l⟩:=by
 apply yi
 simp -zeta only[aC,aB]
 intro F h g j
 let⟨r,o,s1,s2,s3⟩:=qB (a:=F) (b:=h) (c:=g) rfl rfl rfl
 have y:J g j:=J.push _ _
 have s4:j.size=g.size+1:=by simp[j]
 have g0:GR (h.size::d) g j (.mk g.size 0 0 0) []:=Gr.new _ (ad _) _ _ _
 clear_value j
 clear_value g
 have u4:=r.trans y
 have an:=i.iW.len;have am:=i.oK
 have ak:=az D
 have ac:∀b∈[h.size,F.size,c.size],b<j.size:=λb e=>y.lt (o b e)
 have H:∀{M:E}{z:Nat},J c M->c.size<=z->Le (bP d c) (bP (z::h.size::d) M):=λxx aj=>xx.bP λb e=>by
  simp only[aS]at e;rcases e with f|f|f
  .exact Or.inr V
  .exact Or.inr V
  .exact Or.inl f
 refine Gr.all (g:=[.s .nil,.s .nil,.i 0,.s .nil,.i 0]) iQ.mono be g0 (y.fz []) (i.iW.le (H (z:=g.size) u4 V)) bJ λm v g1 B z1 q1=>⟨λb e=>q1 b (ac b e) (by have:=o b e;simp;omega),V,V,?_⟩
 simp only[dX]at g1
 have x:J g v:=B.ext
 have y1:=g1.bh
 let⟨ao,ap,t,R,T,c3,U,W,X,Y,Z⟩:=(i.iW.le (H (z:=m.D) (r.trans x) V)).aG D
 have gJ:∀{P:Value}{t I:Nat},af (bP (m.D::h.size::d) v) t I=some P->af v t I=some P:=λaa=>(eF.1 aa).2
 refine⟨_,gJ U,_,gJ W,_,gJ X,_,gJ Y,_,gJ Z,?_⟩
 have z5:=x.size
 refine(yD (b:=m.D::h.size::d) (λb e=>?_) (R.le (bG _ _)) (T.le (bG _ _)) V).mono λrv m6⟨K,N,f,h1,h2,s⟩=>?_
 .simp only[aS]at e
  rcases e with f|f|f
  .omega
  .omega
  .have:=C b f;omega
 subst f
 have g2:=g1.ext iQ.mono s
 have al:=g2.len be
 let⟨wr,g3,f3,q3⟩:=Gr.set (k:=n) (cs:=[.s K,.s N,.i q.aT,.s p,.i l.aT]) (a:=⟨q.params,q.cO,q.aT,l⟩) iQ.mono g2 (B.then s) V ⟨K,N,p,rfl,h1,h2,ag.le (H (z:=m.D) ((r.trans x).trans s) V)⟩
 refine⟨λb e=>s.same b (oh (o b e)),_,_,_,_,_,rfl,V,V,wr,?_⟩
 intro m7
 refine⟨λb e=>q3 b (oh (o b e)),?_⟩
 intro G
 have ab:∀b∈h.size::d,b<g.size:=λb e=>by
  rcases List.mem_cons.1 e with f|f
  .omega
  .have:=C b f;omega
 have ae:Le (bP (h.size::d) m7) (bP d G):=cB aL λb e=>ai _ e
 have Q:J c G:=(r.trans f3.ext).ag V _ _
 exact⟨u,m,_,rfl,⟨i.bn.le (Q.dg _),zJ.le ae (g3.done iQ.mono ab be bJ),i.types,bJ⟩,rfl,Q⟩
end
def UL{c:List bz}{f b:Nat}{l:List cV}(h:WL c f True b l){j:Nat}{a v:Int}(e:14<=a/\a<=17)(m:0<=v/\v<((b+dc (l.take j):Nat):Int)):
 WL c f True b (l.take j++[eZ a v]++l.drop j)/\dc (l.take j++[eZ a v]++l.drop j)=dc l/\sw (l.take j++[eZ a v]++l.drop j)=sw l+2:=by
 have d:dc [eZ a v]=0:=jX e.1 [v]
 have g:sw [eZ a v]=2:=oJ a [v]
 have i:=cW (l.take j) (l.drop j)
 have k:=dD (l.take j) (l.drop j)
 rw[dm]at i k
 refine⟨((h.take j).yY (DS e m)).append ?_,?_,?_⟩
 .rw[cW,d];exact h.drop j
 .rw[cW,cW,d];omega
 .rw[dD,dD,g];omega
def Tw(h:Nat)(e:List Value)(m:E)(S:List Nat)(b:Nat)(f:O)(P:Nat)(g:List bz)(Q:List gP->Prop):Prop:=
 aM cq h e m λv a=>∃d r c,v=.agg #[O.v d,O.v r]/\eK (bP S a) d r g c/\Q c/\Rd b f P a/\Fz [b] m a
def Qq{h:List Nat}{m:E}(hS:∀l∈h,l<m.size){d P:Nat}{Q:O}(ax:d∈h)(h0:Rd d Q P m)(hP:P+4<=10^16){y t:O}{B:List bz}{L:List gP}(hn:eK (bP h m) y t B L){aa:Nat}(R:yK B L True aa)(hW:aa<=200000000000):
 Tw 208 [vp d 0,.agg #[O.v y,O.v t]] m h d Q (P+4) B λW=>yK B W True (aa+4):=by
 apply JX (d,0)
 simp -zeta only[aC,aB,cE]
 intro f ah
 let⟨x2,hl⟩:=dP (a:=f) (c:=ah) rfl rfl
 have s1:f.size=m.size+1:=by simp[f]
 have s2:ah.size=m.size+2:=by simp[ah,s1]
 clear_value ah
 have bY:=hn.iW.len;have bX:=hn.oK
 have bZ:=h0.lt
 have nb:∀a∈[f.size,m.size],a<ah.size/\a∉[d]:=λa c=>⟨hl a c,by have:=hl a c;simp at c⊢;omega⟩
 have Eo:yK B L True (aa+4):=⟨R.iY,λq F=>let⟨g,a,l,e⟩:=R.dx q F;⟨g,a,l,V⟩⟩
 refine(cD (h0.ext x2) V (t.len:Int)).mono λo g⟨ab,e,f0,f1,h3,z3⟩=>⟨z3.dv nb,ab,e,?_⟩
 have u3:Fz [d] m g:=(x2.fz _).trans z3
 have bQ:ab<(L.length:Int):=by have:=R.iY;omega
 let⟨q,F⟩:=cK L ab.toNat
 let⟨aH,aG,bl,hw⟩:=R.dx q (au F)
 have Hn:∀{M:E},Fz [d] m M->eK (bP h M) y t B L:=λp=>hn.le (p.dg λa c=>by simp at c;subst c;exact ax)
 have HS:∀{M:E}(bb:Nat),m.size<=bb->Fz [d] m M->Le (bP h m) (bP (bb::f.size::h) M):=λbb bK gg=>gg.bP (λa c=>by simp at c;subst c;exact ax) λl s=>by
  simp only[aS]at s;rcases s with e|e|e
  .exact Or.inr V
  .exact Or.inr V
  .exact Or.inl e
 have cg:=z3.size
 let⟨b_,cb,a,c1,c2,c3,e0,e1,e2,e3,e4⟩:=(hn.le (HS g.size V u3)).iW.aG F
 have gJ:∀{M:E}{h:List Nat}{o:Value}{a I:Nat},af (bP h M) a I=some o->af M a I=some o:=λD=>(eF.1 D).2
 refine⟨f0,V,a,gJ e3,q.body.aT,gJ e4,?_⟩
 intro m4 m5
 have x5:J g m5:=(J.push g _).ag (ad _) _ _
 have s5:m5.size=g.size+1:=by simp[m5,m4,aw]
 clear_value m5
 have bL:=c3.len
 have bV:=c3.iC
 have bM:=Bk.mz q.body
 have b0:=fY q.body.ap
 have av:∀a∈[g.size,f.size,m.size],a<m5.size/\a∉[d]:=λa c=>by simp at c⊢;omega
 rw[aP V V]
 refine(cD (h3.ext x5) V _).mono λo m6⟨G,e,j0,j1,h6,z6⟩=>⟨z6.dv av,G,e,?_⟩
 have u6:Fz [d] m m6:=(u3.then x5).trans z6
 have bC:=z6.size
 have ba:=(Hn u6).le (bG _ _)
 obtain⟨fn,a3⟩:∃fn:Nat,ab=fn:=⟨ab.toNat,V⟩
 subst a3
 simp only[uf]at F
 have al:∀a∈[g.size,f.size,m.size],a<m6.size/\a∉[d]:=λa c=>⟨aO (av a c).1 bC,(av a c).2⟩
 have aN:∀{M:E},Rd d Q (P+4) M->Fz [d] m M->∃d' U W,Value.agg #[O.v y,O.v t]=.agg #[O.v d',O.v U]/\eK (bP h (ag M f.size 0 [.s y,.s t])) d' U B W/\yK B W True (aa+4)/\Rd d Q (P+4) (ag M f.size 0 [.s y,.s t])/\Fz [d] m (ag M f.size 0 [.s y,.s t]):=λhr p=>
  have g':=p.ag (b:=f.size) (Or.inr V) 0 [.s y,.s t]
  ⟨y,t,L,rfl,Hn g',Eo,h0.ag hr p V _ _,g'⟩
 refine(EO ba R hW F V).mono λo C⟨lb,ok,e,A,hA⟩=>⟨A.dv λa c=>(al a c).1,(lb,0),ok,e,λ_=>?_,λbd=>?_⟩
 .intro m8
  exact aN ((h6.ext A).mono V) (u6.then A)
 obtain⟨_,jl,ro,sl,ar,b5,h7,i7⟩:=hA (by simpa using bd)
 intro m8
 have x8:J C m8:=J.push _ _
 have g8:GI h C m8 (.mk C.size 0 0 0) []:=GI.nil h C
 clear_value m8
 have z7:=A.size
 have bN:=tw q.body.ap
 have a2:=TS q.body.ap G.toNat
 have N0:=i7.len 0 be
 have u7:Fz [d] m C:=u6.then A
 have aE:∀l∈h,l<C.size:=λl s=>aO (hS l s) u7.size
 refine dV (n:=(ar 0).length) V (λan X M=>J C M/\∃H,GI h C M X H/\H.length<=an/\∀z∈H,0<=z/\z<(((ar 0).length:Nat):Int)) ⟨x8,[],g8,ad _,aL⟩ ?_
 rintro an X m9 bF μ bT ⟨u,H,p,bW,ai⟩ aA
 have h9:=h7.ext u
 have l0:=h9.len (k:=0) be
 have am:∀a∈[g.size,f.size,m.size],a<m9.size/\a∉[d]:=λa c=>⟨u.lt (A.lt (al a c).1),(al a c).2⟩
 refine⟨_,h9.bU (k:=0) be,λa9=>?_,λbR=>?_⟩
 .simp only[aq]at a9
  let⟨z,i⟩:=cK (ar 0) an
  refine⟨_,h9.bU (k:=0) be,V,V,z,h9.aG be V i,λ_=>?_,λ_=>aA V _ _ ⟨u,H,p,V,ai⟩⟩
  refine(sY h9 i7 V (v:=(an:Int)) V V).mono λo az⟨bb,e,w⟩=>⟨w.dv λa c=>(am a c).1,bb,e,λ_=>?_,λ_=>aA V _ _ ⟨u.trans w,H,p.ext w,V,ai⟩⟩
  intro T
  have gy:=p.bh
  refine GI.kL (p.ext w) ((u.trans w).fz []) aE V λU bn N K _ Y=>⟨J.oQ ((u.trans w).aH _) K.ext (λa c=>A.lt (al a c).1),aA V _ _ ⟨K.ext,_,N,bJ,λz i=>?_⟩⟩
  rcases List.mem_append.1 i with i|i
  .exact ai z i
  .simp at i;omega
 .have bS:=p.len be
  have u9:Fz [d] m m9:=u7.then u
  have r9:Rd d Q (P+2) m9:=(h6.ext (A.trans u)).mono V
  refine⟨λ_=>?_,λbc=>?_⟩
  .intro az
   exact aN (r9.mono V) u9
  simp only[ak]at bc
  have gy:=p.bh
  have gb:X.D∉[d]:=by simp;have:=u7.size;omega
  refine(cD r9 V (X.len:Int)).mono λo az⟨ay,e,i0,i1,aX,vQ⟩=>⟨vQ.dv am,ay,e,i0,V,?_⟩
  let⟨w,aM⟩:=cK H ay.toNat
  let⟨w0,w1⟩:=ai w (au aM)
  have a4:af m9 X.D (X.off+ay.toNat*1)=some (vi w):=((p.done aE V).le (bG _ _)).aG aM
  refine⟨w,(aJ (vQ.same _ gy.2 gb) _).trans a4,?_⟩
  have br:=u9.trans vQ
  have ch:=u.size;have bD:=vQ.size
  have aF:∀a∈[g.size,f.size,m.size],a<az.size/\a∉[d]:=λa c=>⟨aO (am a c).1 bD,(am a c).2⟩
  have ew:cR (cR ((a.len:Int) -G)+1)=(a.len:Int) -G+1:=by rw[aP (b:=(a.len:Int) -G) V V,aP V V]
  rw[ew]
  refine(cD aX V _).mono λo T⟨i2,e,b1,b2,aY,ap⟩=>⟨ap.dv aF,i2,e,?_⟩
  have aQ:=br.trans ap
  have bE:=ap.size
  have aj:∀a∈[g.size,f.size,m.size],a<T.size:=λa c=>aO (aF a c).1 bE
  have ac:∀{M:E},T.size<=M.size->∀l∈g.size::f.size::h,l<M.size:=λhz l s=>by
   simp only[aS]at s;have h1:=aj g.size aL;have h2:=aj f.size aL;rcases s with e|e|e
   .omega
   .omega
   .have:=hS l e;have:=aQ.size;omega
  have bt:Fz [d] g T:=(((((x5.fz _).trans z6).then A).then u).trans vQ).trans ap
  have a1:=c3.le (bt.dg λl s=>by simp at s;subst s;simp[ax])
  obtain⟨i,a5⟩:∃i:Nat,G=i:=⟨G.toNat,V⟩
  obtain⟨kn,a8⟩:∃kn:Nat,i2=kn:=⟨i2.toNat,V⟩
  subst a5 a8
  have bk:i+kn<=q.body.ap.length:=V
  have aW:cR ((i:Int)+(kn:Int))=((i+kn:Nat):Int):=by rw[aP V V];omega
  simp only[uf]at N0 a2
  let⟨bm,r0,r1⟩:=bl.aW
  have bO:dc (q.body.ap.take i)<=dc (q.body.ap.take (i+kn)):=by
   have:=TS (q.body.ap.take (i+kn)) i;rwa[ME,jd V]at this
  let⟨bw,bu,bA⟩:=UL (j:=i+kn) (a:=15) (v:=w) bm be ⟨w0,V⟩
  have bj:(q.body.ap.take (i+kn)++[eZ 15 w]++q.body.ap.drop (i+kn)).take i=q.body.ap.take i:=by
   rw[fC,nF bJ,ME,jd V]
  let⟨bx,bv,bB⟩:=UL (j:=i) (a:=14) (v:=w) bw be ⟨w0,by rw[bj];omega⟩
  generalize aK:q.body.ap.take (i+kn)++[eZ 15 w]++q.body.ap.drop (i+kn)=st1 at*
  have bU:st1.length=q.body.ap.length+1:=by rw[<-aK];simp;omega
  have K:∀{M Z:E},J M Z->T.size<=M.size->∀a∈[g.size,f.size,m.size],∀I,af Z a I=af M a I:=λxx hz a c I=>aJ (xx.same a (aO (aj a c) hz)) I
  have kS:∀{M Z:E},J M Z->T.size<=M.size->dY [g.size,f.size,m.size] M Z:=λxx hz a c=>xx.same a (aO (aj a c) hz)
  rw[aW]
  refine(jg (c:=g.size::f.size::h) (ac (ad _)) 15 w).mono λo bn⟨bH,b3,e,aZ,a6,N⟩=>⟨kS N (ad _),_,_,_,_,_,e,K N (ad _) _ aL _,K N (ad _) _ aL _,?_⟩
  have aV:=N.size
  refine(Bn (d:=g.size::f.size::h) (S:=q.body.aT) (q:=eZ 15 w) (ac aV) (a1.le (N.dg _)) aZ a6 bk V).mono λo bo⟨bq,e,aI,ao⟩=>⟨kS ao aV,_,_,e,?_⟩
  rw[aK]at aI
  intro ae
  have cc:=ao.size
  have cd:ae.size=bo.size:=aw _ _ _ _
  have aR:=(aQ.then N).then ao
  have bs:Fz [d] m ae:=aR.ag (Or.inr V) _ _
  have bp:Rd d Q (P+2+1+1) ae:=h0.ag ((aY.ext N).ext ao) aR V _ _
  have bh:eN (bP (g.size::f.size::h) ae) bq st1:=aI.le (cB aL λ_ D=>D)
  clear_value ae
  refine(jg (c:=g.size::f.size::h) (ac V) 14 w).mono λo b6⟨bI,b4,e,a0,a7,z⟩=>⟨kS z V,_,_,_,_,_,e,K z V _ aL _,K z V _ aL _,K z V _ aL _,K z V _ aL _,?_⟩
  have ce:=z.size
  refine(Bn (d:=g.size::f.size::h) (S:=q.body.aT) (q:=eZ 14 w) (ac V) (bh.le (z.dg _)) a0 a7 (f:=i) V V).mono λo b7⟨ca,e,bi,Y⟩=>⟨kS Y V,_,_,e,K Y V _ aL _,K Y V _ aL _,?_⟩
  have cf:=Y.size
  have aT:=(bs.then z).then Y
  refine(Fj (d:=g.size::f.size::h) (ac V) (l:=.mk (st1.take i++[eZ 14 w]++st1.drop i) q.body.aT) (hn.le (HS g.size V aT)) F ⟨aH,aG⟩ bi).mono λo b8⟨d',U,W,e,a_,bg,aD⟩=>⟨kS aD V,d',U,e,?_⟩
  intro b9
  have aU:=aT.then aD
  refine⟨d',U,W,rfl,a_.le (cB aL λl s=>by simp[s]),?_,h0.ag (((bp.ext z).ext Y).ext aD) aU V _ _,aU.ag (Or.inr V) _ _⟩
  subst bg
  refine⟨by simp;exact R.iY,λq' bf=>?_⟩
  rw[eE]
  rcases dp bf with D|D
  .exact Eo.dx q' D
  .subst D
   refine⟨aH,aG,.of bx ⟨r0,by rw[bv,bu];exact r1⟩,?_⟩
   show Bk.w (.mk _ _)<=_
   rw[Bk.qQ,bB,bA];omega
section
variable{f:E}{t:O}{d:Bk}{j e:Int}{g:List Nat}{l h c:Nat}
def qb(l:eN f t d.ap):tq 275 [.agg #[O.v t,vi d.aT]] f λc=>0<=c/\c<=d.ap.length/\∀(i:Nat)(e:cV),d.ap[i]? =some e->(i:Int)<c->14<=e.op/\e.op<=17:=by
 apply zi;simp -zeta only[aC,aB];intro a;have B:J f a:=J.push _ _;have w:∀q∈[f.size],q<a.size:=by simp[a]
 clear_value a;have x:=l.len;refine fm (n:=d.ap.length) (x▸l.iC) (λc M=>J a M/\∀(i:Nat)(e:cV),d.ap[i]? =some e->i<c->14<=e.op/\e.op<=17) ⟨J.aA _,λi e _ b=>V⟩ ?_;rintro c M I μ L ⟨p,o⟩ z
 have u:=B.trans p;have R:∀{m:E},J f m->∃k:Int,vi (c:Int)=vi k/\(0<=k/\k<=d.ap.length/\∀(i:Nat)(e:cV),d.ap[i]? =some e->(i:Int)<k->14<=e.op/\e.op<=17)/\J f m:=λD=>⟨c,rfl,⟨V,V,λi e g b=>o i e g V⟩,D⟩;refine⟨λb=>?_,λb=>R u⟩;simp only[aq]at b;let⟨e,g⟩:=cK d.ap c;obtain⟨h,P,H,N,s,_⟩:=l.aG g;refine⟨V,V,_,u.af s,?_⟩;refine(tT e.op M).aK p w λG Q v C A=>⟨_,rfl,λy=>z V _ ⟨A,λi F j K=>?_⟩,λ_=>R (u.trans C)⟩;by_cases r:i=c
 .subst r;rw[g]at j;simp at j;subst j;exact v.1 y
 .exact o i F j V
def DC(b:eN f t d.ap){w:Int}(K:0<=j/\j<=d.ap.length)(z:∀(r:Nat)(s:cV),d.ap[r]? =some s->(r:Int)<j->0<s.args.length):
 tq 276 [.agg #[O.v t,vi d.aT],vi j,vi w,vi e] f λc=>-1<=c/\(0<=c->c<j/\∃s:cV,d.ap[c.toNat]? =some s/\s.op=w/\s.args[0]? =some e):=by
 apply G6
 simp -zeta only[aC,aB]
 intro i
 have B:J f i:=J.push _ _
 clear_value i
 have L:=b.len
 have H:=b.iC
 obtain⟨k,A⟩:∃k:Nat,j=k:=⟨j.toNat,V⟩
 subst A
 refine fm (n:=k) V (λc M=>J i M) (J.aA _) ?_
 rintro c M I μ F l v
 have u:=B.trans l
 refine⟨λa=>?_,λa=>⟨-1,rfl,⟨V,λa=>V⟩,u⟩⟩
 simp only[aq]at a
 let⟨s,g⟩:=cK d.ap c
 let⟨h,N,m,G,x,g1,g2,y,D⟩:=b.aG g
 have E:=m.len
 have:=z c s g V
 let⟨C,q⟩:=cK s.args 0
 refine⟨V,V,_,u.af x,λo=>⟨V,V,_,u.af y,be,V,C,(m.ext u).aG q,λp=>?_,λ_=>v V _ l⟩,λ_=>v V _ l⟩
 simp only[aE]at o p
 refine⟨c,rfl,⟨V,λ_=>⟨V,s,?_,o,by rw[<-p];exact q⟩⟩,u⟩
 simpa using g
def OY(g:eN f t d.ap){b:Int}(A:0<=b/\b<=d.ap.length):tq 309 [.agg #[O.v t,vi d.aT],vi b,vi j] f λc=>-1<=c/\c<d.ap.length:=by
 apply Il;simp -zeta only[aC,aB];intro i;have v:J f i:=J.push _ _;clear_value i;have q:=g.len;obtain⟨e,p⟩:∃e:Nat,b=e:=⟨b.toNat,V⟩;subst p;refine Wf (n:=d.ap.length) (b:=e) V (q▸g.iC) (λc M=>J i M) (J.aA _) ?_;rintro c M I μ _ y l s
 have u:=v.trans l;refine⟨λk=>?_,λk=>⟨-1,rfl,⟨V,V⟩,u⟩⟩;simp only[aq]at k;let⟨C,r⟩:=cK d.ap c;let⟨h,B,x,z,m,g1,g2,o,w⟩:=g.aG r;have N:=s V _ l
 exact⟨V,V,_,u.af m,λ_=>⟨V,V,_,u.af g2,λ_=>⟨V,V,_,u.af o,λ_=>⟨c,rfl,⟨V,V⟩,u⟩,λ_=>N⟩,λ_=>N⟩,λ_=>N⟩
def Io(d:Bk)(Z:∀l∈g,l<f.size)(C:eN f t d.ap)(hw:d.w<=10^12):aM cq 287 [.agg #[O.v t,vi d.aT]] f λai E=>∃s,ai=.agg #[O.v s,vi d.aT]/\GS g f E s d.ap/\J f E:=by
 let⟨ap,q⟩:=d;rw[Bk.qQ]at hw;simp only[Bk.jW,Bk.jv]at*;apply rL;simp -zeta only[aC,aB];intro j b h F p;let⟨K,A⟩:=dP (a:=j) (c:=b) rfl rfl;have s0:j.size=f.size+1:=by simp[j]
 have s1:b.size=f.size+2:=by simp[b,s0]
 have s2:h.size=b.size+1:=by simp[h]
 have s3:F.size=h.size+1:=by simp[F]
 have L:J h p:=(J.push h _).ag (ad _) _ _;have aj:J b p:=(J.push b _).trans L;have x:GS (h.size::j.size::g) b p (.mk b.size 0 0 0) []:=(GS.new _ b).ext gQ.mono L;have N:cw p h.size di [.s (.mk b.size 0 0 0),.i q]:=cw.ag (m:=F) (o:=0) (r:=[.s (.mk b.size 0 0 0),.i q]) (cw.push h _ _);clear_value p;have aa:∀l∈j.size::g,l<b.size:=bT Z K.size (A _ aL);have ag:=C.len;have al:=fY ap;refine fm (n:=ap.length) (ag▸C.iC) (λc M=>J b M/\∃s,GS (h.size::j.size::g) b M s (ap.take c)/\cw M h.size di [.s s,.i q]) ⟨aj,_,x,N⟩ ?_;rintro c G ak μ hk ⟨w,s,v,B⟩ ah
 have k:=K.trans w;have af:∀d∈[j.size,f.size],d<G.size:=λd y=>w.lt (A d y);have hy:=v.bh;have z5:=w.size;have I:=B.lt;refine dit (λY=>?_) λY=>?_
 .let⟨e,D⟩:=cK ap c;let⟨pa,pk,ha,ae,x,g1,g2,W,X⟩:=C.aG D;have am:=Pd D;refine⟨s,B.bU 0,V,V,_,k.af x,_,k.af g1,_,k.af g2,_,k.af W,_,k.af X,?_⟩;refine(yA (e:=s.D::h.size::j.size::g) (bT (bT aa z5 I) (ad _) hy.2) (ha.ext k) (ae.le k.le) V (λd _=>wH d)).aK (J.aA G) af λP Q x' H ab ac R u _=>⟨_,_,_,_,_,rfl,aJ (u.same _ I) _,?_⟩;subst R;intro m7;refine Gr.box (g:=[.i 0,.i 0,.i 0,.s .nil,.s .nil]) (j:=0) (i:=[.s s,.i q]) (w:=e) gQ.mono be (v.ext gQ.mono u) ((w.trans u).fz []) ⟨P,Q,rfl,ab,ac⟩ bJ (B.ext u) aL be ⟨V,aL⟩ (λl z=>by have M:=A l z;have T:=u.size;omega) λr' E U M T z' q'=>ah V _ ⟨T.ext,r',?_,M⟩
  rw[bd D];exact U
 .rw[cJ V]at v;refine⟨s,B.bU 0,q,B.bU 1,?_⟩;intro H;have u:Fz [j.size] G H:=(Fz.aA _ _).ag (Or.inl aL) _ _;have D:GS g b H s ap:=v.re gQ.mono u aL bJ λl z=>Or.inl (by simp[z]);exact⟨s,rfl,Gr.cv gQ.mono D (λd y=>Or.inl y) V,k.ag V _ _⟩
def UM{f:List bz}{d:Prop}{a:List cV}(j:WL f l d h a){e b:cV}(g:a[c]? =some e)(p:WS f l d (h+dc (a.take c)) b)(hd:dn b=dn e):
 WL f l d h (a.set c b)/\dc (a.set c b)=dc a/\sw (a.set c b)+e.w=sw a+b.w:=by
 have o:=az g
 have k:a.set c b=a.take c++([b]++a.drop (c+1)):=by rw[Pq,aj o];rfl
 have i:a=a.take c++([e]++a.drop (c+1)):=by
  let⟨m,n⟩:=List.getElem?_eq_some_iff.1 g;rw[<-n];show a=a.take c++(a[c]::a.drop (c+1));rw[<-qy m,dm]
 have q:dc a=dc (a.take c)+(dn e+dc (a.drop (c+1))):=by
  conv=>lhs;rw[i]
  rw[cW,cW,kN,tx];omega
 have r:sw a=sw (a.take c)+(e.w+sw (a.drop (c+1))):=by
  conv=>lhs;rw[i]
  rw[dD,dD,mO,vJ];omega
 rw[k]
 refine⟨(j.take c).append ((WL.kX p).append ?_),?_,?_⟩
 .have:=j.drop (c+1)
  rw[qV g]at this
  rw[kN,tx,hd,jF,dk];exact this
 .rw[cW,cW,kN,tx];omega
 .rw[dD,dD,mO,vJ];omega
def _root_.Go.Vc.Gr.cells{α:Type}{r:E}{m d:Nat}{R:E->List Ce->α->Prop}{s:O}{l:List α}(n:Gr g r f m d R s l){e:α}(i:l[c]? =some e):∃a,R (bP (s.D::g) f) a e/\fX f s.D (s.off+c*d) a:=by
 let⟨t,k,o,b⟩:=n;let⟨a,h⟩:=cK k c (by rw[b.len];exact az i);refine⟨a,b.dx c a e h i,λq j p=>?_⟩;have:=o.iF (c*d+q) j (fV b.size h p);rwa[<-dk]at this
def Kd(hS:∀c∈g,c<f.size)(w:eN f t d.ap){Q:List bz}(ao:WB Q l True h d)(hw:d.w<=10^12)(hx:0<=e/\e<(h:Int))(a6:h<=10^12)(j:Int):
 aM cq 274 [.agg #[O.v t,vi d.aT],vi e,vi j] f λaa Z=>∃s o,aa=.agg #[O.v s,vi o.aT]/\eN Z s o.ap/\(eN (bP g f) t d.ap->eN (bP g Z) s o.ap)/\(WB Q l True h o/\o.w<=d.w)/\J f Z:=by
 apply CZ
 simp -zeta only[aC,aB]
 intro m u
 let⟨C,q⟩:=dP (a:=m) (c:=u) rfl rfl
 have s1:m.size=f.size+1:=by simp[m]
 have s2:u.size=f.size+2:=by simp[u,s1]
 clear_value u
 let⟨X,aU⟩:=ao.aW
 have D:∀{ac M':E},J u ac->J u M'->∀I,af M' f.size I=af ac f.size I:=λp h' I=>aJ (by rw[h'.same _ (q _ aL),p.same _ (q _ aL)]) I
 refine(qb (w.le C.le)).aK (J.aA u) q λn1 m3 U P _=>⟨_,rfl,D (J.aA _) P _,D (J.aA _) P _,?_⟩
 refine(DC (w.le (C.trans P).le) (w:=16) (e:=e) ⟨U.1,U.2.1⟩ λap s hi aO=>?_).aK P q λn2 m4 aQ x4 L=>⟨_,rfl,?_⟩
 .have:=U.2.2 ap s hi aO
  have:=(X ap s hi).fe.kX V
  omega
 refine(qb (w.le (C.trans L).le)).aK L q λn3 m5 an x5 M=>⟨_,rfl,D L M _,D L M _,?_⟩
 refine(OY (w.le (C.trans M).le) (j:=j) ⟨an.1,an.2.1⟩).aK M q λn4 z bb x6 v6=>⟨_,rfl,?_⟩
 have u6:=C.trans v6
 have ax:∃s o,Value.agg #[O.v t,vi d.aT]=.agg #[O.v s,vi o.aT]/\eN (ag z m.size 0 [.s t,.i d.aT]) s o.ap/\(eN (bP g f) t d.ap->eN (bP g (ag z m.size 0 [.s t,.i d.aT])) s o.ap)/\(WB Q l True h o/\o.w<=d.w)/\J f (ag z m.size 0 [.s t,.i d.aT]):=
  have R:=u6.ag (b:=m.size) V 0 [.s t,.i d.aT]
  ⟨t,d,rfl,w.le R.le,λp=>p.le (R.dg _),⟨ao,ad _⟩,R⟩
 refine⟨λ_=>ax,λh2=>⟨λ_=>ax,λh4=>?_⟩⟩
 simp only[bD]at h2 h4
 have z6:=v6.size
 have ak:∀c∈m.size::g,c<z.size:=λc i=>by
  rcases List.mem_cons.1 i with n|n
  .omega
  .have:=hS c n;omega
 refine(Io d ak (w.le u6.le) hw).mono λaa H⟨K,n,g7,x7⟩=>⟨λc i=>x7.same c (oh (q c i)),_,_,n,?_⟩
 intro m8 A
 have x9:J H A:=(J.push H _).ag (ad _) _ _
 have s9:A.size=H.size+1:=by simp[A,m8,aw]
 clear_value A
 have y7:=g7.bh
 have z7:=x7.size
 have g9:=g7.ext gQ.mono x9
 have am:∀c∈[H.size,m.size,f.size],c<A.size/\c≠K.D:=λc i=>by simp at i;omega
 refine(jg (c:=K.D::m.size::g) (λc i=>?_) 17 e).mono λaa au⟨ah,aq,n,aK,aN,B⟩=>⟨λc i=>B.same c (am c i).1,_,_,_,_,_,n,aJ (B.same _ V) _,?_⟩
 .rcases List.mem_cons.1 i with n|n
  .omega
  .have:=ak c n;omega
 have aj:=g9.ext gQ.mono B
 have bh:=aj.len be
 let⟨ba,so,W,bc,a7⟩:=aQ.2 V
 have aA:J z au:=(x7.trans x9).trans B
 have aR:=az W
 let⟨a0,T,aF,aY⟩:=Gr.set (k:=n2.toNat) (cs:=[.i 17,.i 0,.i 0,.s ah,.s aq]) (a:=eZ 17 e) gQ.mono aj (aA.fz []) aR ⟨ah,aq,rfl,aK,aN⟩
 refine⟨V,V,a0,?_⟩
 intro F
 have vQ:=B.size
 have bi:F.size=au.size:=aw _ _ _ _
 refine⟨λc i=>aY c (am c i).2,V,V,?_⟩
 have aV:=X _ so W
 have w1:=aV.fe.kX (Or.inl V)
 have d1:dn (eZ 17 e)=dn so:=by
  unfold dn;rw[ae (λp:pD _=>by have:=p.2;simp only[eZ]at this;omega),ae (λp:pD _=>oh p.2)]
 let⟨ay,a2,bk⟩:=UM X W (DS (c:=17) (v:=e) be ⟨hx.1,V⟩) d1
 have bf:=cV.mz so
 have a9:(eZ 17 e).w=2:=rfl
 let⟨y,Y⟩:=cK (d.ap.set n2.toNat (eZ 17 e)) n4.toNat bJ
 have a_:=T.len be
 obtain⟨a5,⟨pa,pk,rfl,aS,aT⟩,jm⟩:=T.cells Y
 have e0:=jm 0 _ rfl;have e1:=jm 1 _ rfl;have e2:=jm 2 _ rfl;have e3:=jm 3 _ rfl;have e4:=jm 4 _ rfl
 refine⟨_,e0,_,e1,_,e2,_,e3,_,e4,?_⟩
 intro aW G
 have N:J F G:=(J.push F _).ag (ad _) _ _
 have bj:G.size=F.size+1:=by simp[G,aW,aw]
 clear_value G
 have aH:=T.ext gQ.mono N
 have aE:cR (1+e)=1+e:=aP V V
 rw[aE]
 have aD:=(aF.then N)
 let⟨a1,aI,aG,aZ⟩:=Gr.set (k:=n4.toNat) (cs:=[.i y.op,.i y.bQ,.i (1+e),.s pa,.s pk]) (a:=⟨y.op,y.bQ,1+e,y.args,y.bE⟩) gQ.mono aH aD bJ ⟨pa,pk,rfl,ar.le (N.dg _) aS,nP.le (N.dg _) aT⟩
 refine⟨V,V,a1,?_⟩
 intro av
 have r:=ay _ y Y
 let⟨a4,a3,bl⟩:=UM (b:=⟨y.op,y.bQ,1+e,y.args,y.bE⟩) ay Y ⟨⟨r.fe.op,r.fe.args,r.fe.kX,⟨by show 0<=1+e;omega,by show 1+e<=_;omega⟩,r.fe.Km,r.fe.all,r.fe.call⟩,r.bE⟩ rfl
 refine⟨λc i=>aZ c (by simp at i;omega),?_⟩
 intro aX
 have bg:(⟨y.op,y.bQ,1+e,y.args,y.bE⟩:cV).w=y.w:=rfl
 have a8:=Bk.mz d
 have bd:=fY d.ap
 have ab:eN (bP (m.size::g) av) K _:=aI.nQ gQ.mono (S:=m.size::g) (λi=>by
  rcases List.mem_cons.1 i with n|n
  .omega
  .have:=hS _ n;omega) be bJ
 have al:Le (bP (m.size::g) av) (bP g aX):=cB aL λc i=>ai _ i
 refine⟨K,.mk _ d.aT,rfl,(ab.le al).le (bG _ _),λ_=>ab.le al,⟨.of a4 (by rw[a3,a2];exact aU),?_⟩,(u6.trans aG.ext).ag V _ _⟩
 rw[Bk.qQ];omega
end
def TD(c:List bz)(d:List gP)(N:Nat):Prop:=∀(b:Bk),b.w<=N->∀(S:List Nat)(m:E),(∀a∈S,a<m.size)->∀(f r t lD:O)(l:List Int)(a:Nat),eK m f r c d->eN m t b.ap->ar m lD l->WB c d.length True a b->a+4*b.w<=10^12->l.length+4*b.w<=10^12->
 nG 232 [.agg #[O.v f,O.v r],.agg #[O.v t,vi b.aT],O.v lD] m S λe=>WB c d.length True a e/\e.w<=b.w
def Ke{D:List Nat}{m:E}(hS:∀c∈D,c<m.size){R ac pa pk lD:O}{j:List bz}{A:List gP}{a:cV}{y:List Int}{F:Nat}(q:eK m R ac j A)(ha:ar m pa a.args)(hk:nP m pk a.bE)(I:ar m lD y)(Y:WS j A.length True F a)(hb:F+4*a.w<=10^12)(a2:y.length+4*a.w<=10^12){l:Nat}{i:Bk}(U:a.bE[l]? =some i)(ih:TD j A i.w):
 nG 248 [.agg #[O.v R,O.v ac],pA a pa pk,vi l,O.v lD] m D λk=>WB j A.length True (F+BR j a.op a.bQ l) k/\k.w<=i.w:=by
 apply C0
 simp -zeta only[aC,aB]
 intro aa s b
 let⟨f,hl,s1,h,s3⟩:=qB (a:=aa) (b:=s) (c:=b) rfl rfl rfl
 clear_value b
 let⟨aj,ht,f0,f1⟩:=hk.aG U
 have a0:=az U
 have a1:=hk.len
 have aW:=ha.len
 have a5:=cV.mz a
 have aY:=xr U
 have ae:=Y.bE l i U
 have aZ:=i.Hm
 have aF:∀{M:E},J b M->∀c∈s.size::D,c<M.size:=λxx c d=>by
  have:=xx.size;rcases List.mem_cons.1 d with e|e
  .omega
  .have:=hS c e;omega
 have iy:∀(M:E)(Z u:O)(l':List Int)(k:Bk)(Lx:List Nat),J m M->J b M->(∀c∈Lx,c<M.size)->eN M u k.ap->ar M Z l'->l'.length<=y.length+1->WB j A.length True (F+BR j a.op a.bQ l) k->k.w<=i.w->
  aM cq 232 [.agg #[O.v R,O.v ac],.agg #[O.v u,vi k.aT],O.v Z] M λv r=>dY Lx M r/\∃(h:O)(b2:Bk),v=.agg #[O.v h,vi b2.aT]/\∀g,g=ag r s.size 0 [.s h,.i b2.aT]->∃s3 b3,(Value.agg #[O.v h,vi b2.aT])=.agg #[O.v s3,vi b3.aT]/\eN (bP D g) s3 b3.ap/\(WB j A.length True (F+BR j a.op a.bQ l) b3/\b3.w<=i.w)/\J m g:=λM Z u l' k Lx xm aU aE hs aK a3 aR aQ=>by
  have h3:=QU q.types a.op a.bQ l
  refine(ih k aQ (s.size::D) M (aF aU) R ac u Z l' _ (q.le xm.le) hs aK aR V V).mono λv r⟨h,b2,e,aO,aG,x'⟩=>⟨x'.dv aE,h,b2,e,λg am=>⟨h,b2,rfl,?_,⟨aG.1,V⟩,?_⟩⟩
  .rw[am];exact aO.le (cB aL λc d=>ai _ d)
  .rw[am];exact(xm.trans x').ag V _ _
 refine⟨λG=>?_,λG=>?_⟩
 .refine⟨V,V,_,f.af f0,_,f.af f1,?_⟩
  refine(iy b lD aj y i _ f (J.aA _) hl (ht.le f.le) (I.ext f) V ae (ad _)).mono λv r⟨o,h,b2,e,p⟩=>⟨o,_,_,e,?_⟩
  intro g
  exact p g rfl
 .have G:a.op=8:=by simpa using G
  obtain⟨aX,_⟩:=Y.fe.all G
  have aV:=Y.fe.kX (Or.inr (Or.inr G))
  let⟨B,hy⟩:=cK a.args 0
  let⟨y0,y1⟩:=Y.fe.args B (au hy)
  refine⟨be,V,B,(ha.ext f).aG hy,V,V,_,f.af f0,_,f.af f1,?_⟩
  intro m4 t
  have x5:J b t:=(J.push b _).ag (ad _) _ _
  have s5:t.size=b.size+1:=by simp[t,m4,aw]
  clear_value t
  have L:=f.trans x5
  have w:∀{M:E},J t M->∀c∈[b.size,s.size,aa.size,m.size],c<M.size:=λxx c d=>by have:=xx.size;simp at d;omega
  refine(dw (I.ext L) B).any.aK (J.aA t) (w (J.aA _)) λbb m6 n _=>⟨_,rfl,λ_=>?_,λ_=>?_⟩
  .have N:=L.trans n
   let⟨cn,aH⟩:=cK (cx j a.bQ) l
   have C:∀{M M':E},J t M->J M M'->∀c∈[b.size,s.size,aa.size,m.size],∀ab,af M' c ab=af M c ab:=λT h' c d ab=>aJ (h'.same c (w T c d)) ab
   refine(ic (e:=[]) aL (q.bn.le N.le) q.types a.bQ).aK n (w (J.aA _)) λs7 l7 m7 X e x7 v7=>⟨_,rfl,C n x7 _ aL _,C n x7 _ aL _,C n x7 _ aL _,?_⟩
   subst e
   have X:=X.le (bG _ _)
   have l7:=X.len
   refine⟨V,V,cn,X.aG aH,?_⟩
   refine(dN (e:=[]) aL (q.bn.le ((L.trans v7).le.trans (Al _))) q.types cn).aK v7 (w (J.aA _)) λs8 l8 m8 a4 e x8 v8=>⟨_,rfl,C v7 x8 _ aL _,C v7 x8 _ aL _,?_⟩
   subst e
   have z8:=v8.size
   have h3:=QU q.types a.op a.bQ l
   have an:eN (bP [b.size] m8) aj i.ap:=ht.le ((Al m).trans ((L.trans v8).bP λc d=>Or.inr (by simp at d;omega)))
   refine(Kd (g:=[b.size]) bJ (an.le (bG _ _)) ae V (e:=B) ⟨y0,V⟩ V (s8.len:Int)).mono λv m9⟨s9,b9,e,_,aP,H,x9⟩=>⟨λc d=>x9.same c (w v8 c d),_,_,e,?_⟩
   intro z
   have v9:=v8.trans x9
   have al:J b z:=(x5.trans v9).ag V _ _
   have W:eN z s9 b9.ap:=((aP an).le (cB (a:=[b.size]) aL λ_ T=>T)).le (bG _ _)
   have a9:z.size=m9.size:=aw _ _ _ _
   have z9:=v9.size
   have K:∀{M:E},z.size<=M.size->∀c∈[b.size,s.size,aa.size,m.size],c<M.size:=λT c d=>by simp at d;omega
   clear_value z
   refine(qb W).aK (J.aA z) (K (ad _)) λa7 a6 ah aA _=>⟨_,rfl,?_⟩
   obtain⟨aS,_⟩:=H.1.aW
   refine(DC (W.le aA.le) (w:=17) (e:=B) ⟨ah.1,ah.2.1⟩ λao u hj aN=>?_).aK aA (K (ad _)) λa8 aT _ a_ P=>⟨_,rfl,λ_=>?_,λ_=>?_⟩
   .have:=ah.2.2 ao u hj aN
    have:=(aS ao u hj).fe.kX V
    omega
   .have Q:=al.trans P
    refine(mH (S:=[]) aL ((I.ext (f.trans Q)).le (Al _)) B V).aK P (K (ad _)) λax ap aq aD av ba ak=>⟨_,rfl,?_⟩
    have ay:=al.trans ak
    have aI:ar aq ax ap:=(aD.done aL (oh av.2)).le (bG _ _)
    refine(iy aq ax s9 ap b9 _ (f.trans ay) ay (K ak.size) (W.le ak.le) aI av.2 H.1 H.2).mono λv r⟨o,h,b2,e,p⟩=>⟨o,_,_,e,?_⟩
    intro g
    exact p g rfl
   .have Q:=al.trans P
    refine(iy aT lD s9 y b9 _ (f.trans Q) Q (K P.size) (W.le P.le) (I.ext (f.trans Q)) V H.1 H.2).mono λv r⟨o,h,b2,e,p⟩=>⟨o,_,_,e,?_⟩
    intro g
    exact p g rfl
  .have N:=L.trans n
   refine(iy m6 lD aj y i _ N (x5.trans n) (w n) (ht.le N.le) (I.ext N) V ae (ad _)).mono λv r⟨o,h,b2,e,p⟩=>⟨o,_,_,e,?_⟩
   intro g
   exact p g rfl
section
variable{c:List gP}
def TD.fw{b:List bz}{N a:Nat}(h:TD b c N)(e:a<=N):TD b c a:=λd f=>h d (bX f e)
def GX{K:List bz}:∀N:Nat,TD K c N:=by
 intro N;induction N with
 |zero=>intro v hb;have:=v.Hm;omega
 |succ N t=>
 intro v hb p Q hS aH a5 a6 lD a3 ae hn hs ao ay aK aR;let⟨ap,A⟩:=v;have ah:=ay.aW;rw[Bk.qQ]at*;simp only[Bk.jW,Bk.jv]at*;apply zo;simp -zeta only[aC,aB];intro R j h f m5 G;let⟨x3,hl,s1,s2,s3⟩:=qB (a:=R) (b:=j) (c:=h) rfl rfl rfl;have s4:f.size=h.size+1:=by simp[f]
 have aj:J f G:=(J.push f _).ag (ad _) _ _;have aE:J h G:=(J.push h _).trans aj;have g0:GS (f.size::j.size::p) h G (.mk h.size 0 0 0) []:=(GS.new _ h).ext gQ.mono aj;have B0:cw G f.size di [.s (.mk h.size 0 0 0),.i A]:=cw.ag (m:=m5) (o:=0) (r:=[.s (.mk h.size 0 0 0),.i A]) (cw.push f _ _);have al:∀d∈j.size::p,d<h.size:=bT hS x3.size (hl _ aL);clear_value G;clear_value h;have aq:=hs.len;have au:=BH ap;have aW:=fY ap;refine fm (n:=ap.length) (aq▸hs.iC) (λl M=>J h M/\∃s u,GS (f.size::j.size::p) h M s u/\cw M f.size di [.s s,.i A]/\u.length=l/\WL K c.length True ae u/\dc u=dc (ap.take l)/\sw u<=sw (ap.take l)) ⟨aE,_,[],g0,B0,rfl,WL.nil _ _ _ _,aL,aL⟩ ?_;rintro l M aG μ hk ⟨xM,s,u,O,B,aU,wl,P,av⟩ aD
 have y:=x3.trans xM;have aQ:∀{q:E},h.size<=q.size->∀d∈[j.size,R.size,Q.size],d<q.size:=λz d e=>aO (hl d e) z;have hy:=O.bh;have zM:=xM.size;have aI:=B.lt;refine dit (λz=>?_) λz=>?_
 .let⟨x,D⟩:=cK ap l;let⟨pa,pk,ha,Y,e0,e1,e2,e3,e4⟩:=hs.aG D;have a0:=Pd D;have a2:=cV.mz x;have aM:=qC x.bE;have a1:=qd D;have aY:=qV D;have ab:=ah.1 l x D;have aP:=tw (ap.take l);have aV:=fY (ap.take l);have aX:=au (l+1);refine⟨V,V,_,y.af e0,_,y.af e1,_,y.af e2,_,y.af e3,_,y.af e4,?_⟩;intro m7 k m9;have x8:J M k:=(J.push M _).ag (ad _) _ _;have s8:k.size=M.size+1:=by simp[k,m7,aw]
  have x9:J k m9:=J.push _ _;have ak:GB (s.D::f.size::j.size::p) k m9 (.mk k.size 0 0 0) []:=GB.new _ k;clear_value m9;clear_value k;have X:∀d∈s.D::f.size::j.size::p,d<k.size:=λd e=>by
   simp only[aS]at e;rcases e with g|g|g|g
   .omega
   .omega
   .omega
   .have:=hS d g;omega
  have Z:=Y.len;refine dV (n:=x.bE.length) (Z▸Y.iC) (λF ks q=>J k q/\∃lk,GB (s.D::f.size::j.size::p) k q ks lk/\lk.length=F/\(∀(w:Nat)(v:Bk),lk[w]? =some v->WB K c.length True (ae+dc (ap.take l)+BR K x.op x.bQ w) v)/\bw lk<=bw (x.bE.take F)) ⟨x9,[],ak,rfl,aL,aL⟩ ?_;rintro F ks I I2 μ2 hj ⟨H,lk,W,aT,ag,an⟩ aA;have C:J Q I:=y.trans (x8.trans H);have yk:=W.bh;have z2:=H.size;have aa:∀{q:E},k.size<=q.size->∀d∈[M.size,j.size,R.size,Q.size],d<q.size:=λz d e=>by simp at e;omega
  refine dit (λh2=>?_) λh2=>?_
  .let⟨v,T⟩:=cK x.bE F;have aN:=xr T;have am:=uL T;refine(Ke (D:=ks.D::s.D::f.size::j.size::p) (λd e=>?_) (hn.le C.le) (ha.ext C) (Y.le C.le) (ao.ext C) ab V V T (t.fw V)).aK (J.aA I) (aa z2) λss b' a4 ar af ac _=>⟨_,_,rfl,?_⟩
   .rcases List.mem_cons.1 e with g|g
    .omega
    .have:=X d g;omega
   refine GB.kL (c:=b') (W.ext rW.mono ac) ((H.trans ac).fz []) ar V λr' q g2 f2 a7 q2=>⟨J.oQ ((H.trans ac).aH _) f2.ext (aa (ad _)),aA V _ _ ⟨f2.ext,_,g2,bJ,λw b2 t=>?_,?_⟩⟩
   .rcases aZ w lk.length with U|U
    .rw[ax U]at t;exact ag w b2 t
    .rw[aF U]at t;have:w -lk.length=0:=by have:=az t;simp at this;omega
     rw[this]at t;simp at t;subst t;have:w=F:=V;subst this;exact af.1
   .rw[oZ,uK,zP,am];have:=af.2;omega
  .have ac:lk.length=x.bE.length:=V;rw[cJ V]at an;have U:J M I:=x8.trans H;have T:=B.ext U;have G2:=O.ext gQ.mono U;refine⟨s,T.bU 0,?_⟩;refine(bR (s.D::f.size::j.size::p) (ha.ext C) V).aK (J.aA I) (aa z2) λs' l' af ga g t _=>⟨_,rfl,aJ (t.same _ V) _,aJ (t.same _ V) _,aJ (t.same _ V) _,aJ (t.same _ T.lt) _,?_⟩;subst g;intro am;refine Gr.box (g:=[.i 0,.i 0,.i 0,.s .nil,.s .nil]) (L:=[M.size,j.size,R.size,Q.size]) (j:=0) (y:=72) (i:=[.s s,.i A]) (w:=⟨x.op,x.bQ,x.bM,x.args,lk⟩) gQ.mono be (G2.ext gQ.mono t) (((xM.trans U).trans t).fz []) ⟨s',ks,rfl,(ga.done (λd e=>oh (X d e)) V),nP.le (t.dg _) (W.done rW.mono X be (by show lk.length<=_;omega))⟩ V (T.ext t) aL be ⟨V,aL⟩ (λd e=>by have h1:=t.size;simp at e;omega) λr' m' g' B' f' z' q'=>aD V _ ⟨f'.ext,r',_,g',B',bJ,wl.yY (ab.P6 id ab.fe.bM ac ag|>λz=>by rw[P];exact z),?_,?_⟩
   .rw[cW,kN,tx,P];have g:dn (⟨x.op,x.bQ,x.bM,x.args,lk⟩:cV)=dn x:=rfl;omega
   .rw[dD,mO,vJ];have h5:(⟨x.op,x.bQ,x.bM,x.args,lk⟩:cV).w=1+x.args.length+bw lk:=cV.mz _;omega
 .have Z:l=ap.length:=V;subst Z;rw[fy]at P av;refine⟨s,B.bU 0,A,B.bU 1,?_⟩;intro m7;have k:Le (bP (f.size::j.size::p) M) (bP p m7):=cB aL λd e=>ai _ (ai _ e);have t:=O.ne B be;refine⟨s,.mk u A,rfl,eN.le k (O.nQ gQ.mono (λe=>?_) be (by show u.length<=_;omega)),⟨.of wl (by rw[P];exact ah.2),by rw[Bk.qQ];omega⟩,y.ag V _ _⟩;rcases List.mem_cons.1 e with g|g
  .exact t g
  .have:=al _ g;omega
def Nn{f:List Nat}{e:E}(U:∀a∈f,a<e.size){u v:O}{p:List bz}(s:eK e u v p c){W:Nat}(hW:W<=200000000000)(hk:yK p c True W):vn 211 [.agg #[O.v u,O.v v]] e f p λH=>yK p H True W:=by
 apply GY;simp -zeta only[aC,aB];intro g a2;let⟨I,D⟩:=dP (a:=g) (c:=a2) rfl rfl;have s1:g.size=e.size+1:=by simp[g]
 clear_value a2;have an:=s.iW.len;have az:=s.oK;refine(fS (b:=g.size::f) (bT U I.size (D _ aL)) (s.le I.le).bn s.types).mono λ_ Z⟨ah,r,ai,K⟩=>?_;subst r;refine⟨K.dv D,_,rfl,?_⟩;intro aa av ag;have u2:=I.trans K;let⟨x5,B0,g0,s3,s5⟩:=lg (b:=aa.size::g.size::f) iQ.mono (d:=Z) (a:=aa) (c:=av) (h:=ag) rfl rfl rfl;clear_value ag;have F:∀a∈[g.size,e.size],a<Z.size:=λa j=>K.lt (D a j);have X:∀a∈g.size::f,a<Z.size:=λa j=>K.lt (bT U I.size (D _ aL) a j);refine kV (R:=λb d M=>∃u v H,Value.agg #[O.v b,O.v d]=.agg #[O.v u,O.v v]/\eK (bP f M) u v p H/\yK p H True W/\J e M) (r:=c.length) (f:=e) (b:=f) iQ.mono be be U ⟨V,F _ aL⟩ u2 s3 ai an V x5 B0 g0 (λ_ q=>q.params.length<=3/\q.cO.length<=3/\WB p c.length True q.params.length q.body/\q.body.w<=W) (λb k Y o h1 h2 d h i=>⟨b,k,Y,rfl,⟨h1,h2,s.types,V⟩,HT hk.iY d h,i⟩) λaq M st Y ax μ aj ay L ab N aw=>?_
 let⟨q,hq⟩:=cK c aq aj;let⟨am,al,ap,hw⟩:=hk.dx q (au hq);have B:=u2.trans L;let⟨aA,aD,b,c1,c2,c3,P,Q,T,y,z⟩:=s.iW.aG hq;have G:∀{w:Value}{b o:Nat},af e b o=some w->af M b o=some w:=λh=>B.af h;refine⟨st,N.bU 1,V,V,_,G P,_,G Q,_,G T,_,G y,_,G z,V,V,_,G y,_,G z,?_⟩;intro i;have hy:=ab.bh;have ac:=N.lt;have zM:=L.size;have d:J M i:=J.push _ _;have s7:i.size=M.size+1:=by simp[i]
 have ak:ar i (.mk M.size 0 0 0) []:=mK _ _ _ _ _ _;clear_value i;have k:∀{w:Value}{b o:Nat},af e b o=some w->af i b o=af M b o:=λh=>by rw[d.af (G h),G h]
 have C:∀{b o:Nat},b<M.size->af i b o=af M b o:=λh=>aJ (d.same _ h) _;have A:e.size<M.size:=L.lt (F _ aL);refine⟨k y,k z,C A,C A,C A,k P,k Q,k T,k y,k z,C A,C ac,?_⟩;refine(GX q.body.w q.body (ad _) (st.D::aa.size::g.size::f) i (λa j=>?_) u v b (.mk M.size 0 0 0) [] q.params.length (s.le (B.trans d).le) (c3.le (B.trans d).le) ak ap V bJ).aK (L.trans d) F λss b' M1 ao ae t u1=>⟨_,_,rfl,?_⟩
 .simp only[aS]at j;rcases j with r|r|r|r
  .omega
  .omega
  .have:=X a (by simp[r]);omega
  .have:=X a (by simp[r]);omega
 have x:∀{w:Value}{b o:Nat},af e b o=some w->af M1 b o=af i b o:=λh=>by rw[t.af (d.af (G h)),d.af (G h)]
 refine⟨x P,x Q,x T,x y,x z,aJ (t.same _ (d.lt A)) _,aJ (t.same _ (d.lt ac)) _,?_⟩;exact wz (b:=g.size::f) (v:=ah) (x:=Y) X (λa j=>by have h1:=F a j;have h2:=u1.size;omega) u1 (ab.ext iQ.mono (d.trans t)) (N.ext (d.trans t)) V (c1.ext (B.trans (d.trans t))) (c2.ext (B.trans (d.trans t))) ao ⟨V,V⟩ V λs' M' g' B' x'=>aw s' M' _ g' B' x' ⟨am,al,ae.1,bX ae.2 hw⟩
end
section
variable{m:E}{t:O}{b:Bk}{a:List Nat}
def PJ(a:Int)(l:List cV):Nat:=l.countP λs=>s.op=a
def YC:∀l:List cV,PJ 14 l+PJ 15 l<=l.length
 |[]=>by simp[PJ]
 |s::l=>by
  have:=YC l;simp only[PJ,List.countP_cons,aV]at this⊢;by_cases h:s.op=14
  .simp[h];omega
  .by_cases a:s.op=15
   .simp[a];omega
   .simp[h,a];omega
def TQ(a:Int)(l:List cV)(s:cV):PJ a (l++[s])=PJ a l+(if s.op=a then 1 else 0):=by
 simp[PJ,List.countP_append,List.countP_cons]
def IK(g:eN m t b.ap):tq 271 [.agg #[O.v t,vi b.aT]] m λk=>0<=k/\k<=b.ap.length/\∀(i:Nat)(a:cV),b.ap[i]? =some a->(i:Int)<k->a.op=14\/a.op=15:=by
 apply Bp;simp -zeta only[aC,aB];intro c;have G:J m c:=J.push _ _;have z:∀q∈[m.size],q<c.size:=by simp[c]
 clear_value c;have A:=g.len;refine fm (n:=b.ap.length) (A▸g.iC) (λk M=>J c M/\∀(i:Nat)(a:cV),b.ap[i]? =some a->i<k->a.op=14\/a.op=15) ⟨J.aA _,λi a _ h=>V⟩ ?_;rintro k M L μ S ⟨o,l⟩ D
 have u:=G.trans o;have R:∀{j:E},J m j->∃f:Int,vi (k:Int)=vi f/\(0<=f/\f<=b.ap.length/\∀(i:Nat)(a:cV),b.ap[i]? =some a->(i:Int)<f->a.op=14\/a.op=15)/\J m j:=λI=>⟨k,rfl,⟨V,V,λi a d h=>l i a d V⟩,I⟩;refine⟨λh=>?_,λh=>R u⟩;simp only[aq]at h;let⟨a,d⟩:=cK b.ap k;let⟨p,C,P,T,s,g1,g2,v,w⟩:=g.aG d;refine⟨V,V,_,u.af s,_,u.af g1,_,u.af g2,_,u.af v,_,u.af w,?_⟩;refine(AX (x:=a) p C M).aK o z λN U y H F=>⟨_,rfl,λB=>D V _ ⟨F,λi K e Q=>?_⟩,λ_=>R (u.trans H)⟩;by_cases r:i=k
 .subst r;rw[d]at e;simp at e;subst e;exact y.1 B
 .exact l i K e V
def yx(L:∀g∈a,g<m.size)(C:eN m t b.ap){d:Nat}(hm:d<=b.ap.length)(e:Int)(K:∀(i:Nat)(s:cV),b.ap[i]? =some s->i<d->0<s.args.length)(hb:b.ap.length<=10^12):
 ln 272 [.agg #[O.v t,vi b.aT],vi d,vi e] m a λl=>(∀y∈l,∃(i:Nat)(s:cV),i<d/\b.ap[i]? =some s/\y∈s.args)/\l.length<=PJ e (b.ap.take d):=by
 apply Cx
 simp -zeta only[aC,aB]
 intro c w
 have z:J m c:=J.push _ _
 have N:∀g∈[m.size],g<c.size:=by simp[c]
 have Q:J c w:=J.push _ _
 have I:GI a c w (.mk c.size 0 0 0) []:=GI.nil a c
 clear_value w
 clear_value c
 have ac:=C.len
 refine dV (n:=d) V (λk s M=>J c M/\∃l,GI a c M s l/\(∀y∈l,∃(i:Nat)(s:cV),i<d/\b.ap[i]? =some s/\y∈s.args)/\l.length<=PJ e (b.ap.take k)) ⟨Q,[],I,aL,aL⟩ ?_
 rintro k s M S μ hk ⟨p,l,q,v,P⟩ E
 have u:=z.trans p
 refine dit (λr=>?_) λr=>?_
 .let⟨x,o⟩:=cK b.ap k
  let⟨U,kk,B,ab,F,W,X,G,Y⟩:=C.aG o
  have Z:=B.len
  have:=K k x o V
  let⟨y,D⟩:=cK x.args 0
  have j:PJ e (b.ap.take (k+1))=PJ e (b.ap.take k)+(if x.op=e then 1 else 0):=by rw[bd o,TQ]
  have aa:PJ e (b.ap.take k)<=(b.ap.take k).length:=List.countP_le_length
  have ad:=qS k b.ap
  refine⟨V,V,_,u.af F,λh=>⟨V,V,_,u.af G,be,V,y,(B.ext u).aG D,?_⟩,λh=>E V _ _ ⟨p,l,q,v,?_⟩⟩
  .intro m3
   simp only[aE]at h
   rw[aj h]at j
   refine GI.kL q (p.fz []) (λg j=>z.lt (L g j)) V λaf T H A _ _=>⟨J.oQ (p.aH _) A.ext N,E V _ _ ⟨A.ext,_,H,λR f=>?_,bJ⟩⟩
   rcases List.mem_append.1 f with f|f
   .exact v R f
   .simp at f;subst f;exact⟨k,x,V,o,au D⟩
  .simp only[ak]at h
   rw[ae h]at j;omega
 .have f:k=d:=V
  subst f
  exact⟨s,l,rfl,q.cv (λ_ r=>r) z.size,⟨v,P⟩,u⟩
def RP:∀{l:List cV},(∀x∈l,dn x=0)->dc l=0
 |[],_=>rfl
 |x::l,h=>by rw[kN,h x aX,RP λy a=>h y (ai _ a)]
def Uz:∀{l:List cV},(∀x∈l,2<=x.w)->2*l.length<=sw l
 |[],_=>aL
 |x::l,h=>by
  have b:=h x aX;have c:=Uz λy a=>h y (ai _ a);rw[mO,aV];omega
def Mo(hS:∀c∈a,c<m.size){X:O}{q:List Int}{ds:List bz}{nr g:Nat}(o:eN (bP a m) t b.ap)(hf:ar m X q)(bn:q.length<=3)(am:WB ds nr True (g+q.length) b)(hw:b.w<=100000000000)(ha:g<=10^12){h:Int}(hx:0<=h/\h<(g:Int)):
 nG 247 [.agg #[O.v t,vi b.aT],vi h,O.v X,vi g] m a λb'=>WB ds nr True (g+q.length) b'/\b'.w<=b.w+8:=by
 apply ET
 simp -zeta only[aC,aB]
 intro p T
 let⟨B,C⟩:=dP (a:=p) (c:=T) rfl rfl
 have s1:p.size=m.size+1:=by simp[p]
 have s2:T.size=m.size+2:=by simp[T,s1]
 clear_value T
 let⟨an,aM⟩:=am.aW
 have al:=o.le (bG _ _)
 have bk:=Bk.mz b
 have bt:=fY b.ap
 have aO:=o.len
 have bm:=o.cap
 have bo:=hf.len
 refine(IK (al.le B.le)).aK (J.aA T) C λmn m3 a6 x3 _=>⟨_,rfl,?_⟩
 obtain⟨kn,a4⟩:∃kn:Nat,mn=kn:=⟨mn.toNat,V⟩
 subst a4
 have aK:∀(d:Nat)(s:cV),b.ap[d]? =some s->d<kn->s.op=14\/s.op=15:=λd s w aG=>a6.2.2 d s w V
 have aj:∀(d:Nat)(s:cV),b.ap[d]? =some s->d<kn->0<s.args.length:=λd s w aG=>by
  have:=aK d s w aG;have:=(an d s w).fe.kX V;omega
 refine(yx (a:=[]) aL (al.le (B.trans x3).le) (d:=kn) V 14 aj V).aK x3 C λsd G m4 gd hd x4 v4=>⟨_,rfl,?_⟩
 refine(yx (a:=[]) aL (al.le (B.trans v4).le) (d:=kn) V 15 aj V).aK v4 C λsr Q m5 gr hr x5 v5=>⟨_,rfl,?_⟩
 have bl:=YC (b.ap.take kn)
 have bv:(b.ap.take kn).length=kn:=bJ
 have aN:ar m5 sr Q:=(gr.done aL V).le (bG _ _)
 refine(dw aN h).aK v5 C λbi m6 bj x6 A=>⟨_,rfl,λ_=>⟨t,b,rfl,o.le (((B.trans A).ag V _ _).dg _),⟨am,V⟩,(B.trans A).ag V _ _⟩,λbp=>⟨λ_=>⟨t,b,rfl,o.le (((B.trans A).ag V _ _).dg _),⟨am,V⟩,(B.trans A).ag V _ _⟩,λa7=>?_⟩⟩
 have bq:0<q.length:=by simp only[ak]at a7;omega
 have aH:∀s∈b.ap.take kn,∃d:Nat,d<kn/\b.ap[d]? =some s:=λs o=>by
  let⟨d,w⟩:=List.mem_iff_getElem?.1 o;have:=az w;rw[dH V]at w;exact⟨d,V,w⟩
 have aE:dc (b.ap.take kn)=0:=RP λs o=>by
  let⟨d,Z,L⟩:=aH s o;have:=aK d s L Z;exact ae λY:pD s.op=>by have:=Y.2;omega
 have bs:2*kn<=sw (b.ap.take kn):=by
  have:=Uz (l:=b.ap.take kn) λs o=>by
   let⟨d,Z,L⟩:=aH s o;have:=aj d s L Z;have:=cV.mz s;omega
  omega
 have bu:sw b.ap=sw (b.ap.take kn)+sw (b.ap.drop kn):=by rw[<-dD,dm]
 have a1:dc b.ap=dc (b.ap.take kn)+dc (b.ap.drop kn):=by rw[<-cW,dm]
 have Yj:∀y:Int,(∃(d:Nat)(s:cV),d<kn/\b.ap[d]? =some s/\y∈s.args)->0<=y/\y<((g+q.length:Nat):Int):=λy⟨d,s,Z,L,h3⟩=>by
  have h4:=(an d s L).fe.args y h3;have h5:=TS (b.ap.take kn) d;rw[ME,jd V]at h5;omega
 refine(sM (S:=[]) aL ((aN.ext x6).le (Al _)) h V).aK A C λbd a_ m8 aA aI x8 v8=>⟨_,rfl,?_⟩
 have y2:=aA.bh
 have bV:=x8.size
 have a8:ar (bP [bd.D] m8) sd G:=((gd.done aL V).le (bG _ _)).le (((x5.trans x6).le.trans (Al m6)).trans (x8.bP λc e=>Or.inr (by simp at e;omega)))
 refine xw (n:=q.length) V (λk sd sr M=>J m6 M/\∃G Q,ar (bP [sr.D] M) sd G/\GI [] m6 M sr Q/\(∀y∈G,0<=y/\y<((g+q.length:Nat):Int))/\G.length<=PJ 14 (b.ap.take kn)/\(∀y∈Q,0<=y/\y<((g+q.length:Nat):Int))/\Q.length<=PJ 15 (b.ap.take kn)+k) ⟨x8,G,a_,a8,aA,λy P=>Yj y (hd.1 y P),hd.2,λy P=>Yj y (hr.1 y (aI.1 y P)),Qb aI.2 hr.2⟩ ?_
 rintro k H D u av μ hk ⟨I,ac,R,N,K,aa,aF,ab,br⟩ ao
 have U:=(B.trans A).trans I
 have y3:=K.bh
 have r:∀c∈[p.size,m.size],c<u.size:=λc e=>I.lt (A.lt (C c e))
 refine⟨λY=>?_,λY=>?_⟩
 .simp only[aq]at Y
  let⟨y,P⟩:=cK q k
  have ew:cR ((g:Int)+(k:Int))=(g:Int)+k:=aP V V
  rw[ew]
  have ah:∀{M:E},J u M->af M X.D (X.off+Int.toNat (k:Int)*1)=some (vi y):=λv=>(hf.ext (U.trans v)).aG P
  have ax:∀{M:E},J u M->av H D (cR ((k:Int)+1)) M/\μ H D (cR ((k:Int)+1)) M<μ H D k u:=λv=>ao V _ _ _ ⟨I.trans v,ac,R,N.le (v.dg _),K.ext v,aa,aF,ab,V⟩
  have OF:∀{M:E},J u M->jM (M.push (.cells (bA [.i ((g:Int)+k)]) aD)) aD [.i 0] 8 D (.mk M.size 0 1 1) λau W=>dY [p.size,m.size] (M.push (.cells (bA [.i ((g:Int)+k)]) aD)) W/\av H au (cR ((k:Int)+1)) W/\μ H au (cR ((k:Int)+1)) W<μ H D k u:=λ{M} v=>by
   refine GI.kL (K.ext v) ((I.trans v).fz []) aL V λau W g' f' z' q'=>⟨J.oQ ((I.trans v).aH _) f'.ext (λc e=>A.lt (C c e)),ao V _ _ _ ⟨f'.ext,ac,_,(N.le (v.dg _)).le (pP λc e hn=>?_),g',aa,aF,λag z=>?_,bJ⟩⟩
   .simp at hn;refine⟨?_,q' c e hn⟩;simp;rcases z'.2 with f|f<;>omega
   .rcases List.mem_append.1 z with z|z
    .exact ab ag z
    .simp at z;omega
  refine⟨V,V,y,ah (J.aA _),λ_=>?_,λ_=>⟨V,V,y,ah (J.aA _),λ_=>?_,λ_=>ax (J.aA _)⟩⟩
  .refine(dw (N.le (bG _ _)) _).aK (J.aA u) r λbb aT _ F _=>⟨_,rfl,λ_=>?_,λ_=>⟨V,V,y,ah F,λ_=>?_,λ_=>ax F⟩⟩
   .refine(sM (S:=[D.D]) (by have:=F.size;simp;omega) (N.le (F.dg _)) _ V).aK F r λaU aR aw aQ ap aV ay=>⟨_,rfl,ao V _ _ _ ⟨I.trans ay,aR,R,aQ.done (by have:=F.size;simp;omega) (oh ap.2),K.ext ay,λag z=>aa ag (ap.1 ag z),oh ap.2,ab,V⟩⟩
   .intro aw
    exact OF F
  .intro aw
   exact OF (J.aA _)
 .have a9:ar u D R:=(K.done aL V).le (bG _ _)
  have F:∀{M:E},u.size<=M.size->∀c∈p.size::a,c<M.size:=λz c e=>by
   rcases List.mem_cons.1 e with f|f
   .have:=r p.size aL;omega
   .have:=hS c f;have:=U.size;omega
  refine(eV (c:=p.size::a) (F (ad _)) 14 (N.le (bG _ _)) V).aK (J.aA u) r λba bx bC aw aW ah _=>⟨_,rfl,?_⟩
  subst aW
  have bR:=aw.bh
  have bg:=ah.size
  refine(jg (c:=ba.D::p.size::a) (λc e=>?_) 16 h).mono λbQ bD⟨bh,bw,f,a0,a3,ap⟩=>⟨λc e=>ap.same c (ah.lt (r c e)),_,_,_,_,_,f,?_⟩
  .rcases List.mem_cons.1 e with f|f
   .omega
   .exact F bg c f
  intro bE
  have au:=ah.trans ap
  refine GS.kL (x:=eZ 16 h) (aw.ext gQ.mono ap) (au.fz []) a0 a3 bJ λbb bF ax P bW bL=>⟨J.oQ (au.aH _) P.ext r,?_⟩
  have bS:=ax.bh
  have bU:=au.size
  have aU:=P.size
  refine(eV (c:=bb.D::p.size::a) (λc e=>?_) 15 (a9.ext P.ext) V).aK P.ext r λbO bB bH aY aX bf aT=>⟨_,rfl,?_⟩
  .rcases List.mem_cons.1 e with f|f
   .omega
   .exact F aU c f
  subst aX
  refine GS.all (ax.ext gQ.mono bf) (aT.fz []) (aY.done gQ.mono (λc e=>?_) be bJ) bJ λaR aQ ay v bX bM=>⟨J.oQ aT v.ext r,V,V,V,?_⟩
  .rcases List.mem_cons.1 e with f|f
   .omega
   .exact F aU c f
  have bT:=ay.bh
  have z9:=U.size
  have a5:Le (bP a m) (bP (aR.D::p.size::a) aQ):=(U.trans v.ext).bP λc e=>by
   simp only[aS]at e;rcases e with f|f|f
   .exact Or.inr V
   .exact Or.inr V
   .exact Or.inl f
  have ek:Int.toNat (kn:Int)=kn:=V
  have el:Int.toNat (t.len:Int)=t.len:=V
  rw[ek,el]
  have a2:eN (bP (aR.D::p.size::a) aQ) (t.cut kn t.len 5) (b.ap.drop kn):=by
   have:=(o.le a5).KS (i:=kn) (j:=t.len) V V;rwa[aO,cJ (ad _),<-aO]at this
  refine GS.all ay v a2 bJ λbc bI aZ ag bY bN=>⟨J.oQ v.ext ag.ext r,aJ (by rw[ag.ext.same _ (r _ aL),v.ext.same _ (r _ aL)]) _,?_⟩
  intro bK
  have aV:=aZ.done gQ.mono (F (ad _)) be bJ
  have W:dc [eZ 16 h]=0:=jX be [h]
  have e2:sw [eZ 16 h]=2:=oJ 16 [h]
  have W1:WL ds nr True (g+q.length) (ac.map (eZ 14)++[eZ 16 h]++R.map (eZ 15)++b.ap.drop kn):=by
   refine WL.append (WL.append ((sg be aa).yY ?_) ?_) ?_
   .rw[jX be];exact DS be ⟨hx.1,V⟩
   .rw[cW,jX be,W];exact sg be ab
   .rw[cW,cW,jX be,jX be,W];have:=an.drop kn;rwa[aE]at this
  refine⟨bc,.mk (ac.map (eZ 14)++[eZ 16 h]++R.map (eZ 15)++b.ap.drop kn) b.aT,rfl,eN.le (cB aL λc e=>ai _ e) aV,⟨.of W1 ?_,?_⟩,(U.trans ag.ext).ag V _ _⟩
  .rw[cW,cW,cW,jX be,jX be,W]
   rw[a1,aE]at aM
   simpa using aM
  .rw[Bk.qQ,dD,dD,dD,oJ,oJ,e2];omega
end
def Z7(c:List bz)(d:List gP)(b:Bk):Prop:=∀(S:List Nat)(m:E),(∀a∈S,a<m.size)->∀(f r t:O)(a:Nat),eK m f r c d->eN m t b.ap->WB c d.length True a b->a+4*b.w<=10^12->9*b.w<=100000000000->
 nG 231 [.agg #[O.v f,O.v r],.agg #[O.v t,vi b.aT],vi a] m S λe=>WB c d.length True a e/\e.w+8<=9*b.w
def Df{z:List bz}{rs:List gP}:∀B:Bk,Z7 z rs B:=by
 refine Bk.ind ?_;intro ap X ih p ac hS aT a6 bW q I hs bk bv bx;have a1:=bk.aW;rw[Bk.qQ]at*;simp only[Bk.jW,Bk.jv]at*;apply wV;simp -zeta only[aC,aB];intro ag j t g m5 m6;let⟨x3,hl,s1,s2,s3⟩:=qB (a:=ag) (b:=j) (c:=t) rfl rfl rfl;have s4:g.size=t.size+1:=by simp[g]
 have a8:J g m6:=(J.push g _).ag (ad _) _ _;have bp:J t m6:=(J.push t _).trans a8;have g0:GS (g.size::j.size::p) t m6 (.mk t.size 0 0 0) []:=(GS.new _ t).ext gQ.mono a8;have B0:cw m6 g.size di [.s (.mk t.size 0 0 0),.i X]:=cw.ag (m:=m5) (o:=0) (r:=[.s (.mk t.size 0 0 0),.i X]) (cw.push g _ _);have a_:∀d∈j.size::p,d<t.size:=bT hS x3.size (hl _ aL);clear_value m6;clear_value t;have bf:=hs.len;have bh:=BH ap;have bL:=fY ap;refine dV (n:=ap.length) (bf▸hs.iC) (λk(v:Int) M=>v=((q+dc (ap.take k):Nat):Int)/\J t M/\∃s w,GS (g.size::j.size::p) t M s w/\cw M g.size di [.s s,.i X]/\w.length=k/\WL z rs.length True q w/\dc w=dc (ap.take k)/\sw w<=9*sw (ap.take k)) ⟨aL,bp,_,[],g0,B0,rfl,WL.nil _ _ _ _,aL,aL⟩ ?_;rintro k v0 M aR μ hk ⟨bj,xM,s,w,an,Z,bF,wl,av,bi⟩ a5
 subst bj;have v:=x3.trans xM;have hy:=an.bh;have zM:=xM.size;have bs:=Z.lt;refine dit (λao=>?_) λao=>?_
 .let⟨c,N⟩:=cK ap k;let⟨pa,pk,ha,aK,e0,e1,e2,e3,e4⟩:=hs.aG N;have bO:=Pd N;have bS:=cV.mz c;have bB:=qC c.bE;have bQ:=qd N;have bN:=qV N;have U:=a1.1 k c N;have bD:=tw (ap.take k);have bK:=fY (ap.take k);have bM:=bh (k+1);refine⟨V,V,_,v.af e0,_,v.af e1,_,v.af e2,_,v.af e3,_,v.af e4,?_⟩;intro m7 l Q;have x8:J M l:=(J.push M _).ag (ad _) _ _;have s8:l.size=M.size+1:=by simp[l,m7,aw]
  have x9:J l Q:=J.push _ _;have s9:Q.size=l.size+1:=by simp[Q]
  have a9:GB (s.D::g.size::j.size::p) l Q (.mk l.size 0 0 0) []:=GB.new _ l;clear_value Q;clear_value l;have aH:∀d∈s.D::g.size::j.size::p,d<l.size:=λd h=>by
   simp only[aS]at h;rcases h with e|e|e|e
   .omega
   .omega
   .omega
   .have:=hS d e;omega
  have aN:=aK.len;have D:∀{f:E},l.size<=f.size->∀d∈[M.size,j.size,ag.size,ac.size],d<f.size:=λao d h=>by simp at h;omega
  have z9:Q.size=l.size+1:=s9;refine(ic (e:=[l.size]) bJ (I.bn.le (v.trans (x8.trans x9)).le) I.types c.bQ).aK (J.aA Q) (D x9.size) λsc lc bU aX e a7 _=>⟨_,rfl,?_⟩;subst e;have bH:=aX.len;refine dV (n:=c.bE.length) (aN▸aK.iC) (λu ks f=>J l f/\ar (bP [ks.D] f) sc (cx z c.bQ)/\∃lk,GB (s.D::g.size::j.size::p) l f ks lk/\lk.length=u/\(∀(P:Nat)(B:Bk),lk[P]? =some B->WB z rs.length True (q+dc (ap.take k)+BR z c.op c.bQ P) B)/\bw lk<=9*bw (c.bE.take u)) ⟨x9.trans a7,aX,[],a9.ext rW.mono a7,rfl,aL,aL⟩ ?_;rintro u ks A I2 μ2 hj ⟨al,aY,lk,gk,bE,aV,bd⟩ bn;have F:J ac A:=v.trans (x8.trans al);have yk:=gk.bh;have R:=al.size;refine dit (λh2=>?_) λh2=>?_
  .let⟨B,T⟩:=cK c.bE u;let⟨tb,a0,f0,f1⟩:=aK.aG T;have bC:=xr T;have bb:=uL T;have aq:=U.bE u B T;have h3:=QU I.types c.op c.bQ u;have aG:∀{f:E},J A f->∀d∈ks.D::s.D::g.size::j.size::p,d<f.size:=λxx d h=>by
    have:=xx.size;rcases List.mem_cons.1 h with e|e
    .omega
    .have:=aH d e;omega
   have am:∀{f:E}{Y:O}{C:Bk},J A f->eN (bP (ks.D::s.D::g.size::j.size::p) f) Y C.ap->WB z rs.length True (q+dc (ap.take k)+BR z c.op c.bQ u) C->C.w<=9*B.w->
    jM (f.push (.cells (bA [.s Y,.i C.aT]) di)) di [.s .nil,.i 0] 32 ks (.mk f.size 0 1 1) λW M3=>dY [M.size,j.size,ag.size,ac.size] (f.push (.cells (bA [.s Y,.i C.aT]) di)) M3/\I2 W (cR ((u:Int)+1)) M3/\μ2 W (cR ((u:Int)+1)) M3<μ2 ks u A:=λ{f Y C} x11 ab hwb' hw'=>by
    refine GB.kL (c:=C) (gk.ext rW.mono x11) ((al.trans x11).fz []) ab V λW M3 g2 f2 bq q2=>⟨J.oQ ((al.trans x11).aH _) f2.ext (D (ad _)),bn V _ _ ⟨f2.ext,(aY.le (x11.dg _)).le (pP λd h aW=>?_),_,g2,bJ,λP b2 H=>?_,?_⟩⟩
    .simp at aW
     refine⟨?_,q2 d h aW⟩
     simp
     rcases bq.2 with e|e<;>omega
    .rcases aZ P lk.length with y|y
     .rw[ax y]at H;exact aV P b2 H
     .rw[aF y]at H
      have:P -lk.length=0:=by have:=az H;simp at this;omega
      rw[this]at H;simp at H;subst H
      have:P=u:=V
      subst this;exact hwb'
    .rw[oZ,uK,zP,bb]
     omega
   refine⟨λG=>?_,λG=>?_⟩
   .simp only[aE]at G;obtain⟨bu,_⟩:=U.fe.all G;have br:=U.fe.kX (Or.inr (Or.inr G));let⟨aQ,a2⟩:=cK c.args 0;let⟨y0,y1⟩:=U.fe.args aQ (au a2);have bt:=ha.len;let⟨cn,aU⟩:=cK (cx z c.bQ) u;refine⟨V,V,cn,(aY.le (bG _ _)).aG aU,?_⟩;refine(dN (e:=[]) aL (I.bn.le (F.le.trans (Al _))) I.types cn).aK (J.aA A) (D R) λsf lf a3 ay e aA _=>⟨_,rfl,?_⟩;subst e;have ay:=ay.le (bG _ _);have bI:=ay.len;have aa:=F.trans aA;rw[KK G aU]at aq h3 am;have aD:af a3 pa.D (pa.off+Int.toNat (0:Int)*1)=some (vi aQ):=(ha.ext aa).aG a2;refine⟨V,V,_,aa.af f0,_,aa.af f1,be,V,aQ,aD,?_⟩;have ew:cR (((q+dc (ap.take k):Nat):Int)+(sf.len:Int))=((q+dc (ap.take k)+(cF z cn).length:Nat):Int):=by rw[aP V V];omega
    rw[ew];refine(ih c (au N) B (au T) (ks.D::s.D::g.size::j.size::p) a3 (aG aA) aT a6 tb _ (I.le aa.le) (a0.le aa.le) aq V V).aK aA (D R) λY C bl ab aI ah aO=>⟨_,_,rfl,?_⟩;refine⟨by rw[ah.af aD,aD],aJ (ah.same _ (aA.lt (D R _ aL))) _,?_⟩;refine(Mo (a:=ks.D::s.D::g.size::j.size::p) (aG aO) ab (ay.ext ah) V aI.1 V V ⟨y0,y1⟩).aK aO (D R) λbV b2 a4 bg ba y bo=>⟨_,_,rfl,?_⟩;intro bm;exact am bo bg ba.1 V
   .simp only[ak]at G;rw[KL G]at aq am;refine⟨V,V,_,F.af f0,_,F.af f1,?_⟩;refine(ih c (au N) B (au T) (ks.D::s.D::g.size::j.size::p) A (aG (J.aA _)) aT a6 tb _ (I.le F.le) (a0.le F.le) aq V V).aK (J.aA A) (D R) λY C bl ab aI ah aO=>⟨_,_,rfl,?_⟩;intro a4;exact am ah ab aI.1 V
  .have aq:lk.length=c.bE.length:=V;rw[cJ V]at bd;have T:J M A:=x8.trans al;have H:=Z.ext T;have G2:=an.ext gQ.mono T;refine⟨s,H.bU 0,?_⟩;refine(bR (s.D::g.size::j.size::p) (ha.ext F) V).aK (J.aA A) (D R) λs' l' a4 ga e y _=>⟨_,rfl,aJ (y.same _ V) _,aJ (y.same _ V) _,aJ (y.same _ V) _,aJ (y.same _ H.lt) _,?_⟩;subst e;intro bm;refine Gr.box (g:=[.i 0,.i 0,.i 0,.s .nil,.s .nil]) (K:=λf=>aM cq 179 [vi c.op] f λv G=>dY [M.size,j.size,ag.size,ac.size] f G/\∃C:Bool,v=vb C/\
    (C=true->aR (cR (((q+dc (ap.take k):Nat):Int)+1)) (cR ((k:Int)+1)) G/\μ (cR (((q+dc (ap.take k):Nat):Int)+1)) (cR ((k:Int)+1)) G<μ ((q+dc (ap.take k):Nat):Int) (k:Int) M)/\
    (C=false->aR ((q+dc (ap.take k):Nat):Int) (cR ((k:Int)+1)) G/\μ ((q+dc (ap.take k):Nat):Int) (cR ((k:Int)+1)) G<μ ((q+dc (ap.take k):Nat):Int) (k:Int) M)) (L:=[M.size,j.size,ag.size,ac.size]) (j:=0) (y:=72) (i:=[.s s,.i X]) (w:=⟨c.op,c.bQ,c.bM,c.args,lk⟩) gQ.mono be (G2.ext gQ.mono y) (((xM.trans T).trans y).fz []) ⟨s',ks,rfl,(ga.done (λd h=>oh (aH d h)) V),nP.le (y.dg _) (gk.done rW.mono aH be (by show lk.length<=_;omega))⟩ V (H.ext y) aL be ⟨V,aL⟩ (λd h=>by have C:=y.size;simp at h;omega) λW m' g' Y f' z' q'=>?_
   have W':WL z rs.length True q (w++[⟨c.op,c.bQ,c.bM,c.args,lk⟩]):=wl.yY (U.P6 id U.fe.bM aq aV|>λao=>by rw[av];exact ao);have ay:=y.size;refine(jP c.op m').mono λv G⟨bb,e,am,C⟩=>⟨λd h=>C.same d (oh (D R d h)),bb,e,?_⟩;have ab:=tz c bb am;have aa:dc (w++[⟨c.op,c.bQ,c.bM,c.args,lk⟩])=dc (ap.take (k+1)):=by
    rw[cW,kN,tx,av];have e:dn (⟨c.op,c.bQ,c.bM,c.args,lk⟩:cV)=dn c:=rfl;omega
   have ah:sw (w++[⟨c.op,c.bQ,c.bM,c.args,lk⟩])<=9*sw (ap.take (k+1)):=by
    rw[dD,mO,vJ];have h5:(⟨c.op,c.bQ,c.bM,c.args,lk⟩:cV).w=1+c.args.length+bw lk:=cV.mz _;omega
   refine⟨λht=>?_,λhf=>?_⟩
   .rw[aj ht]at ab;rw[aP (b:=((q+dc (ap.take k):Nat):Int)+1) V V];exact a5 V _ _ ⟨V,f'.ext.trans C,W,_,g'.ext gQ.mono C,Y.ext C,bJ,W',aa,ah⟩
   .rw[ae (by simp[hf])]at ab;exact a5 V _ _ ⟨V,f'.ext.trans C,W,_,g'.ext gQ.mono C,Y.ext C,bJ,W',aa,ah⟩
 .have aN:k=ap.length:=V;subst aN;rw[fy]at av bi;refine⟨s,Z.bU 0,X,Z.bU 1,?_⟩;intro m7;have c:Le (bP (g.size::j.size::p) M) (bP p m7):=cB aL λd h=>ai _ (ai _ h);have f:=an.ne Z be;refine⟨s,.mk w X,rfl,eN.le c (an.nQ gQ.mono (λh=>?_) be (by show w.length<=_;omega)),⟨.of wl (by rw[av];exact a1.2),by rw[Bk.qQ];omega⟩,v.ag V _ _⟩;rcases List.mem_cons.1 h with e|e
  .exact f e
  .have:=a_ _ e;omega
def EZ{d:List Nat}{f:E}(A:∀c∈d,c<f.size){j r:O}{h:List bz}{k:List gP}(i:eK f j r h k){W:Nat}(hW:9*W<=100000000000)(X:yK h k True W):vn 210 [.agg #[O.v j,O.v r]] f d h λu=>yK h u True (9*W):=by
 apply ye;simp -zeta only[aC,aB];intro b a2;let⟨y,t⟩:=dP (a:=b) (c:=a2) rfl rfl;have s1:b.size=f.size+1:=by simp[b]
 clear_value a2;have al:=i.iW.len;have aA:=i.oK;refine(fS (b:=b.size::d) (bT A y.size (t _ aL)) (i.le y.le).bn i.types).mono λ_ I⟨ac,e,ah,z⟩=>?_;subst e;refine⟨z.dv t,_,rfl,?_⟩;intro K ap aa;have u2:=y.trans z;let⟨x5,B0,g0,s3,s5⟩:=lg (b:=K.size::b.size::d) iQ.mono (d:=I) (a:=K) (c:=ap) (h:=aa) rfl rfl rfl;clear_value aa;have F:∀c∈[b.size,f.size],c<I.size:=λc a=>z.lt (t c a);have D:∀c∈b.size::d,c<I.size:=λc a=>z.lt (bT A y.size (t _ aL) c a);refine kV (R:=λg o M=>∃j r u,Value.agg #[O.v g,O.v o]=.agg #[O.v j,O.v r]/\eK (bP d M) j r h u/\yK h u True (9*W)/\J f M) (r:=k.length) (f:=f) (b:=d) iQ.mono be be A ⟨V,F _ aL⟩ u2 s3 ah al V x5 B0 g0 (λ_ q=>q.params.length<=3/\q.cO.length<=3/\WB h k.length True q.params.length q.body/\q.body.w<=9*W) (λg w H x T s o p v=>⟨g,w,H,rfl,⟨T,s,i.types,V⟩,HT X.iY o p,v⟩) λao M st H av μ ai ay N Q B aq=>?_
 let⟨q,Z⟩:=cK k ao ai;let⟨ak,aj,an,hw⟩:=X.dx q (au Z);have v:=u2.trans N;let⟨ar,aD,p,P,c2,c3,e0,e1,e2,e3,e4⟩:=i.iW.aG Z;have G:∀{ab:Value}{p o:Nat},af f p o=some ab->af M p o=some ab:=λag=>v.af ag;refine⟨V,V,_,G e0,_,G e1,_,G e2,_,G e3,_,G e4,?_⟩;intro m7 g;have hy:=Q.bh;have ax:=B.lt;have zM:=N.size;have L:J M g:=(J.push M _).ag (ad _) _ _;have s8:g.size=M.size+1:=by simp[g,m7,aw]
 clear_value g;have Y:∀c∈[M.size,b.size,f.size],c<g.size:=λc a=>by
  rcases List.mem_cons.1 a with e|e
  .omega
  .have:=F c e;omega
 have w8:=v.trans L;have az:=P.len;have ae:(ar.len:Int)=(q.params.length:Nat):=V;refine⟨st,(B.ext L).bU 1,?_⟩;rw[ae];refine(Df q.body (st.D::K.size::b.size::d) g (λc a=>?_) j r p q.params.length (i.le w8.le) (c3.le w8.le) an V V).aK (J.aA g) Y λss b' M1 am U w _=>⟨_,_,rfl,?_⟩
 .simp only[aS]at a;rcases a with e|e|e|e
  .omega
  .omega
  .have:=D c (by simp[e]);omega
  .have:=D c (by simp[e]);omega
 have C:∀o,af M1 M.size o=af g M.size o:=λo=>aJ (w.same _ V) o;refine⟨C 0,C 1,C 2,C 3,C 4,aJ (w.same _ V) _,?_⟩;have x:=L.trans w;have z1:=w.size;exact wz (b:=b.size::d) (v:=ac) (x:=H) D (λc a=>by have T:=Y c a;have s:=F c;simp only[aS]at a s;rcases a with e|e|e|e<;>first|omega|(have:=s (by simp[e]);omega)|simp at e) (N.trans x) (Q.ext iQ.mono x) (B.ext x) V (P.ext (v.trans x)) (c2.ext (v.trans x)) am ⟨V,V⟩ V λs' T g' s x'=>aq s' T _ g' s x' ⟨ak,aj,U.1,by have:=U.2;show b'.w<=_;omega⟩
section
variable{S:List Nat}{m:E}{c:O}{l:List Instr}
def dT.le{m b:E}(h:Le m b){a:List Ce}{x:Instr}:dT m a x->dT b a x:=λ⟨c,j,d,e,f⟩=>⟨c,j,d,e.le h,f.le h⟩
def dT.mono:oH 6 dT:=⟨λh=>dT.le h,λh=>by obtain⟨_,_,rfl,_⟩:=h;rfl⟩
def fu.le{m b:E}(a:Le m b){s:O}{l:List Instr}(h:fu m s l):fu b s l:=eR.le h a λ_ _=>dT.le a
def lA.le{m b:E}(h:Le m b){a:List Ce}{x:dA}:lA m a x->lA b a x:=λ⟨d,l,c,e,f,g,i⟩=>⟨d,l,c,e,f.le h,g.le h,fu.le h i⟩
def lA.mono:oH 5 lA:=⟨λh=>lA.le h,λh=>by obtain⟨_,_,_,rfl,_⟩:=h;rfl⟩
def jz.le{m b:E}(a:Le m b){s:O}{l:List dA}(h:jz m s l):jz b s l:=eR.le h a λ_ _=>lA.le a
def Wh(x:Instr)(a j:O):Value:=.agg #[vi x.op,vi x.dst,vi x.bQ,vi x.bM,O.v a,O.v j]
def wK(A:∀c∈S,c<m.size){r u:O}{x:Instr}(B:ar m r x.args)(C:ar m u x.eG)(h:x.args.length<=10^12/\x.eG.length<=10^12):
 aM cq 213 [Wh x r u] m λH p=>∃g j,H=Wh x g j/\ar (bP S p) g x.args/\ar (bP S p) j x.eG/\J m p:=by
 apply rO
 simp -zeta only[aC,aB]
 intro d e
 let⟨k,i⟩:=dP (a:=d) (c:=e) rfl rfl
 have K:d.size=m.size+1:=by simp[d]
 clear_value e
 have s:∀c∈d.size::S,c<e.size:=bT A k.size (i _ aL)
 have b:∀{M q:E},J e M->J M q->∀o,af q m.size o=af M m.size o:=λy z o=>aJ (z.same _ (y.lt (i _ aL))) o
 refine(bR (d.size::S) (B.ext k) h.1).aK (J.aA e) i λg _ I v l a _=>⟨_,rfl,b (J.aA _) a _,b (J.aA _) a _,b (J.aA _) a _,b (J.aA _) a _,b (J.aA _) a _,?_⟩
 subst l
 refine(bR (d.size::S) (C.ext (k.trans a)) h.2).aK a i λj _ D w l f G=>⟨_,rfl,b a f _,b a f _,b a f _,b a f _,?_⟩
 subst l
 intro F
 have t:Le (bP (d.size::S) D) (bP S F):=cB aL λc n=>ai _ n
 exact⟨g,j,rfl,((v.done s h.1).le (f.dg _)).le t,(w.done (λc n=>a.lt (s c n)) h.2).le t,(k.trans G).ag V _ _⟩
def Nm(d:fu m c l)(s:Int):Fx 206 [O.v c,vi s] m:=by
 apply GW;have k:=d.len;refine dV (n:=l.length) (k▸d.iC) (λ_ _ M=>J m M) (J.aA _) ?_;rintro q K M I μ F e u
 refine⟨λh=>?_,λ_=>rN e⟩;simp only[aq]at h;let⟨x,o⟩:=cK l q;let⟨z,H,b,E,A,g,B,C,f,D⟩:=(fu.ext e d).aG o;have j:=b.len;refine⟨V,V,_,g,?_⟩;refine dV (n:=x.args.length) (j▸b.iC) (λ_ _ a=>J M a) (J.aA _) ?_;rintro r L w v μ2 G a t;refine⟨V,V,_,a.af f,λi=>?_,λ_=>u V _ _ (e.trans a)⟩;simp only[aq]at i;let⟨y,p⟩:=cK x.args r;exact⟨V,V,_,a.af f,V,V,y,(b.ext a).aG p,t V _ _ a⟩
structure Pu(k:Nat)(x:Instr):Prop where
 MX:x.op=22->(k:Int)<x.bQ
 arg:x.op=18\/x.op=23\/x.op=16\/x.op=17->0<x.args.length
def Sw(l:List Instr):Prop:=∀(k:Nat)(x:Instr),l[k]? =some x->Pu k x
def IJ(f:fu m c l)(E:Sw l){n:Int}(C:0<=n)(Sn:Int):oX 233 [O.v c,vi n,vi Sn] m:=by
 apply Bo;simp -zeta only[aC,aB];have I:=f.len;have L:=f.iC;refine⟨λv _ M=>0<=v/\J m M,λv _ _=>((l.length:Int) -v).toNat,⟨C,J.aA _⟩,?_⟩;rintro v G M ⟨F,k⟩;refine⟨λh=>?_,λ_=>rA k⟩;simp only[aq]at h;let⟨a,o⟩:=cK l v.toNat;let⟨d,N,e,K,s,t,w,z,A,B⟩:=(fu.ext k f).aG o;have H:=e.len;have g:=E _ a o;refine⟨F,V,_,s,_,t,_,w,_,z,_,A,_,B,?_⟩;intro P b;have j:J M b:=(J.push M _).ag (ad _) _ _;clear_value b;have u:=k.trans j;have MX:(a.op==22)=true->(0<=a.bQ/\J m b)/\((l.length:Int) -a.bQ).toNat<((l.length:Int) -v).toNat:=λh=>by
  simp only[aE]at h;have:=g.MX h;exact⟨⟨V,u⟩,V⟩
 have p:(a.op==23)=true->(0:Int)<=0/\(0:Int)<(d.len:Int)/\∃q:Int,af b d.D (d.off+Int.toNat (0:Int)*1)=some (vi q)/\∃r:Bool,vb (q==G)=.bool r/\J m b:=λh=>by
  simp only[aE]at h;have:=g.arg V;let⟨y,i⟩:=cK a.args 0;exact⟨be,V,y,(e.ext j).aG i,rA u⟩
 refine⟨λD=>?_,λ_=>⟨MX,λ_=>⟨p,λ_=>rA u⟩⟩⟩;simp only[aE]at D;have:=g.arg V;let⟨y,i⟩:=cK a.args 0;refine⟨be,V,y,(e.ext j).aG i,λ_=>?_,λ_=>⟨MX,λ_=>⟨p,λ_=>rA u⟩⟩⟩;rw[aP (b:=v+1) V V];exact⟨⟨V,u⟩,by show((l.length:Int) -(v+1)).toNat<((l.length:Int) -v).toNat;omega⟩
def KI(l b:List Instr):Prop:=b.length=l.length/\∀(k:Nat)(a:Instr),b[k]? =some a->∃x,l[k]? =some x/\(a=x\/a=⟨24,0,x.bQ,0,x.args,x.eG⟩)
def QP(l:List Instr):Prop:=∀x∈l,x.args.length<=10^12/\x.eG.length<=10^12
abbrev VR(S:List Nat)(a m:E)(s:O)(l:List Instr):Prop:=Gr S a m de 6 dT s l
def Kj(hS:∀c∈S,c<m.size)(f:fu m c l)(ae:Sw l)(af:QP l)(hb:l.length<=10^12):
 aM cq 212 [O.v c] m λN L=>∃s e,N=O.v s/\VR S m L s e/\KI l e/\J m L:=by
 apply Dh
 simp -zeta only[aC,aB]
 intro H
 have x1:J m H:=J.push _ _
 have g0:VR S m H (.mk m.size 0 0 0) []:=Gr.new S (ad _) _ _ _
 clear_value H
 have ac:=f.len
 refine dV (n:=l.length) (ac▸f.iC) (λk s M=>J m M/\∃e,VR S m M s e/\KI (l.take k) e) ⟨x1,[],g0,by simp[KI]⟩ ?_
 rintro k s M Q μ hk ⟨q,e,A,D,F⟩ ai
 refine dit (λaa=>?_) λaa=>?_
 .let⟨d,G⟩:=cK l k
  let⟨al,an,ha,hj,R,T,U,W,X,Y⟩:=(fu.ext q f).aG G
  have ag:=af d (au G)
  have hy:=A.bh
  have zM:=q.size
  have am:e.length=k:=by rw[D];simp;omega
  have ab:∀c∈s.D::S,c<M.size:=λc f=>by
   rcases List.mem_cons.1 f with u|u
   .omega
   .have:=hS c u;omega
  refine⟨V,V,_,R,_,T,_,U,_,W,_,X,_,Y,?_⟩
  refine(wK ab ha hj ag).mono λN y⟨t,w,u,B,C,P⟩=>⟨_,_,_,_,_,_,u,?_⟩
  intro m3 j
  have i:J y j:=(J.push y _).ag (ad _) _ _
  have s4:j.size=y.size+1:=by simp[j,m3,aw]
  clear_value j
  have p:=P.trans i
  have z:∀{g:E}{b:Instr},J j g->ar (bP (s.D::S) g) t b.args->ar (bP (s.D::S) g) w b.eG->(b=d\/b=⟨24,0,d.bQ,0,d.args,d.eG⟩)->
   jM (g.push (.cells (bA [.i b.op,.i b.dst,.i b.bQ,.i b.bM,.s t,.s w]) de)) de [.i 0,.i 0,.i 0,.i 0,.s .nil,.s .nil] 80 s (.mk g.size 0 1 1) λI r=>dY [y.size] (g.push (.cells (bA [.i b.op,.i b.dst,.i b.bQ,.i b.bM,.s t,.s w]) de)) r/\Q I (cR ((k:Int)+1)) r/\μ I (cR ((k:Int)+1)) r<μ s k M:=λ{g b} xx h1 h2 h3=>by
   have z4:=p.size
   have zx:=xx.size
   refine Gr.kL (g:=[.i 0,.i 0,.i 0,.i 0,.s .nil,.s .nil]) (k:=b) dT.mono be (A.ext dT.mono (p.trans xx)) ((q.trans (p.trans xx)).fz []) ⟨t,w,rfl,h1,h2⟩ V λI r g3 Z z3 q3=>⟨λc f=>?_,ai V _ _ ⟨Z.ext,_,g3,bJ,λv aj h=>?_⟩⟩
   .have o:=P.size
    simp at f;subst f
    rw[q3 _ V V,(J.push g _).same _ V]
   .rcases aZ v e.length with o|o
    .rw[ax o]at h
     let⟨ak,K,ah⟩:=F v aj h
     rw[dH V]at K⊢
     exact⟨ak,K,ah⟩
    .rw[aF o]at h
     have:v -e.length=0:=by have:=az h;simp at this;omega
     rw[this]at h;simp at h;subst h
     have:v=k:=V
     subst this
     exact⟨d,by rw[dH V];exact G,h3⟩
  have z4:=p.size
  refine⟨λh9=>?_,λ_=>?_⟩
  .rw[aP (b:=(k:Int)+1) V V]
   refine(IJ (fu.ext (q.trans p) f) ae V d.dst).aK (J.aA j) bJ λah K o _=>⟨_,rfl,λ_=>?_,λ_=>?_⟩
   .intro m6
    have:=z (b:=⟨24,0,d.bQ,0,d.args,d.eG⟩) o ((B.le (i.dg _)).le (o.dg _)) ((C.le (i.dg _)).le (o.dg _)) (Or.inr rfl)
    rw[aP (b:=(k:Int)+1) V V]at this
    exact this
   .intro m6
    have:=z (b:=d) o ((B.le (i.dg _)).le (o.dg _)) ((C.le (i.dg _)).le (o.dg _)) (Or.inl rfl)
    rw[aP (b:=(k:Int)+1) V V]at this
    exact this
  .intro K
   exact z (b:=d) (J.aA _) (B.le (i.dg _)) (C.le (i.dg _)) (Or.inl rfl)
 .rw[cJ V]at D F
  exact⟨s,e,rfl,A,⟨D,F⟩,q⟩
end
section
variable{b:List dA}
structure TC(p:dA):Prop where
 params:p.params.length<=3
 cO:p.cO.length<=3
 iY:0<p.cX.length
 oK:p.cX.length<=10^12
 cX:Sw p.cX
 kU:QP p.cX
structure DO(b:List dA):Prop where
 iY:0<b.length
 oK:b.length<=4
 dx:∀p∈b,TC p
def QO(f:Nat)(c:List Value)(m:E)(S:List Nat)(e:List bz)(Q:List dA->Prop):Prop:=aM cq f c m λv a=>∃d p b,v=.agg #[O.v d,O.v p]/\cy (bP S a) d e/\jz (bP S a) p b/\Q b/\J m a
def KI.ok{l d:List Instr}(h:KI l d)(g:Sw l)(f:QP l):Sw d/\QP d:=by
 let⟨j,e⟩:=h;refine⟨λk a c=>?_,λa c=>?_⟩
 .obtain⟨x,b,rfl|rfl⟩:=e k a c
  .exact g k a b
  .exact⟨sx,sx⟩
 .let⟨k,i⟩:=List.mem_iff_getElem?.1 c;obtain⟨x,b,rfl|rfl⟩:=e k a i
  .exact f a (au b)
  .exact f x (au b)
def VB{a:List dA}(h:DO b)(f:a.length=b.length)(c:∀(i:Nat)(q:dA),a[i]? =some q->TC q):DO a:=
 ⟨by have:=h.iY;omega,oh h.oK,λq e=>by obtain⟨i,d⟩:=List.mem_iff_getElem?.1 e;exact c i q d⟩
def IM{d:List Nat}{l:E}(T:∀c∈d,c<l.size){y z:O}{A:List bz}(hd:cy l y A)(ht:dU A)(hp:jz l z b)(W:DO b):QO 164 [.agg #[O.v y,O.v z]] l d A DO:=by
 apply Bu;simp -zeta only[aC,aB];intro f a2;let⟨K,F⟩:=dP (a:=f) (c:=a2) rfl rfl;have s1:f.size=l.size+1:=by simp[f]
 clear_value a2;have ao:=hp.len;have aG:=W.oK;refine(fS (b:=f.size::d) (bT T K.size (F _ aL)) (hd.le K.le) ht).mono λ_ Z⟨dd,e,am,L⟩=>?_;subst e;refine⟨L.dv F,_,rfl,?_⟩;intro o aq ai;have u2:=K.trans L;let⟨x5,B0,g0,s3,s5⟩:=lg (b:=o.size::f.size::d) lA.mono (d:=Z) (a:=o) (c:=aq) (h:=ai) rfl rfl rfl;clear_value ai;have U:∀c∈[f.size,l.size],c<Z.size:=λc g=>L.lt (F c g);have ae:∀c∈f.size::d,c<Z.size:=λc g=>L.lt (bT T K.size (F _ aL) c g);refine kV (R:=λj k M=>∃y z h,Value.agg #[O.v j,O.v k]=.agg #[O.v y,O.v z]/\cy (bP d M) y A/\jz (bP d M) z h/\DO h/\J l M) (r:=b.length) (f:=l) (b:=d) lA.mono be be T ⟨V,U _ aL⟩ u2 s3 am ao V x5 B0 g0 (λ_ r=>TC r) (λh r' ah m' h1 C j k p=>⟨h,r',ah,rfl,h1,C,VB W j k,p⟩) λap M s ah az μ an aE xM ac N av=>?_
 let⟨r,hq⟩:=cK b ap an;have t:=W.dx r (au hq);have q3:=t.params;have q4:=t.cO;have qf:=t.oK;have qs:=t.iY;have v6:=u2.trans xM;let⟨aA,p,c,c1,c2,c3,e0,e1,e2,e3,e4⟩:=hp.aG hq;have G:∀{aa:Value}{p v:Nat},af l p v=some aa->af M p v=some aa:=λB=>v6.af B;refine⟨V,V,_,G e0,_,G e1,_,G e2,_,G e3,_,G e4,?_⟩;intro m7 k;have hy:=ac.bh;have aD:=N.lt;have zM:=xM.size;have x8:J M k:=(J.push M _).ag (ad _) _ _;have s8:k.size=M.size+1:=by simp[k,m7,aw]
 clear_value k;have H:∀c∈[M.size,f.size,l.size],c<k.size:=λc g=>by
  rcases List.mem_cons.1 g with e|e
  .omega
  .have:=U c e;omega
 have w8:=v6.trans x8;have D:∀{M':E},k.size<=M'.size->∀c∈s.D::o.size::f.size::d,c<M'.size:=λB c g=>by
  simp only[aS]at g;rcases g with e|e|e|e
  .omega
  .omega
  .have:=ae c (by simp[e]);omega
  .have:=ae c (by simp[e]);omega
 have h:∀{P M2:E},J k P->J P M2->∀p,p<k.size->∀v,af M2 p v=af P p v:=λB h' p hb v=>aJ (h'.same p (B.lt hb)) v;have q:M.size<k.size:=V;have X:o.size<k.size:=V;refine⟨s,(N.ext x8).bU 1,?_⟩;refine(bR (s.D::o.size::f.size::d) (c1.ext w8) V).aK (J.aA k) H λa' _ m9 ga e j _=>⟨_,rfl,h (J.aA _) j _ q _,h (J.aA _) j _ q _,h (J.aA _) j _ q _,h (J.aA _) j _ q _,h (J.aA _) j _ X _,?_⟩;subst e;refine(bR (s.D::o.size::f.size::d) (c2.ext (w8.trans j)) V).aK j H λb' _ aH gb e x w=>⟨_,rfl,h j x _ q _,h j x _ q _,h j x _ q _,h j x _ X _,?_⟩;subst e;have z9:=j.size;have vQ:=x.size;refine(Kj (S:=s.D::o.size::f.size::d) (D V) (fu.ext (w8.trans w) c3) t.cX t.kU qf).mono λaa Y⟨Q,I,e,gc,ag,u⟩=>⟨λc g=>u.same c (w.lt (H c g)),Q,e,h w u _ q _,h w u _ q _,h w u _ X _,?_⟩;intro aI;have ab:=x8.trans (w.trans u);have aK:=u.size;let⟨ax,ay⟩:=ag.ok t.cX t.kU;have aF:=ag.1;have aj:ar (bP (s.D::o.size::f.size::d) Y) a' r.params:=(ga.done (D V) V).le ((x.trans u).dg _);have ak:ar (bP (s.D::o.size::f.size::d) Y) b' r.cO:=(gb.done (D V) V).le (u.dg _);have al:fu (bP (s.D::o.size::f.size::d) Y) Q I:=gc.done dT.mono (D V) be V;exact Gr.box (g:=[.s .nil,.s .nil,.i 0,.i 0,.s .nil]) (j:=1) (y:=88) (i:=[.s dd,.s s]) (w:=⟨r.params,r.cO,r.aT,r.an,I⟩) lA.mono be (ac.ext lA.mono ab) ((xM.trans ab).fz []) ⟨a',b',Q,rfl,aj,ak,al⟩ V (N.ext ab) aL be ⟨V,aL⟩ (λc g=>by have h1:=H c g;have C:=U c;simp only[aS]at g C;rcases g with e|e|e|e<;>first|omega|(have:=C (by simp[e]);omega)|simp at e) λr' m' g' C f' z' q'=>av r' m' _ g' C f'.ext ⟨q3,q4,by show 0<I.length;omega,by show I.length<=_;omega,ax,ay⟩
end
section
variable{S:List Nat}{d c:E}{b:Nat}{s:O}{l:List Instr}{x:Instr}
structure Fs(S:List Nat)(d c:E)(b:Nat)(s:O)(l:List Instr):Prop where
 box:cw c b oF [.s s]
 gr:VR (b::S) d c s l
 up:d.size<=b
def Fs.ext{S:List Nat}{d c a:E}{b:Nat}{s:O}{l:List Instr}(h:Fs S d c b s l)(x:J c a):Fs S d a b s l:=⟨h.box.ext x,h.gr.ext dT.mono x,h.up⟩
def Fs.ne{S:List Nat}{d c:E}{b:Nat}{s:O}{l:List Instr}(h:Fs S d c b s l):s.D≠b:=h.gr.ne h.box be
def Ps(S:List Nat)(d c:E)(b:Nat)(s:O)(P:List Instr->Prop)(f:E):Prop:=∃a e,Fs S d f b a e/\P e/\Fz [b,s.D] c f/\(a.D=s.D\/c.size<=a.D)
def qN{v z:O}(p:Fs S d c b s l)(E:d.size<=c.size)(H:ar (bP (s.D::b::S) c) v x.args)(I:ar (bP (s.D::b::S) c) z x.eG)(q:l.length<=10^12):
 aM cq 205 [vp b 0,Wh x v z] c λP M=>P=vi (l.length:Nat)/\Ps S d c b s (l++[x]=·) M:=by
 apply xP (b,0)
 simp -zeta only[aC,aB]
 intro g
 have n:J c g:=J.push _ _
 have s1:g.size=c.size+1:=by simp[g]
 clear_value g
 have h:=p.ext n
 have W:=h.gr.bh
 have D:=h.box.lt
 have T:=p.box.lt
 have X:=p.gr.bh
 refine⟨s,h.box.bU 0,?_⟩
 intro N
 have F:J g N:=J.push _ _
 refine⟨aJ (F.same _ D) _,?_⟩
 have U:(c.extract 0 d.size).size=d.size:=nY E
 have g1:VR (b::S) (c.extract 0 d.size) g s l:=Gr.cv dT.mono h.gr (λG q=>Or.inl q) V
 refine Gr.kL (g:=[.i 0,.i 0,.i 0,.i 0,.s .nil,.s .nil]) (k:=x) dT.mono be g1 ((((J.MG E).trans n).fz [])) ⟨v,z,rfl,H.le (n.dg _),I.le (n.dg _)⟩ V λi k A R Q u=>?_
 have Z:∀e,e<g.size->e≠s.D->k[e]? =g[e]? :=u
 have y:cw k b oF [.s s]:=h.box.congr (u b D (kH h.ne))
 have L:=A.ne y be
 refine⟨λe f=>?_,y.eC aL,?_⟩
 .simp at f;subst f
  rw[u c.size V V,F.same _ V]
 intro t
 have C:cw t b oF [.s i]:=cw.ag (m:=k) (o:=0) (r:=[.s i]) y
 have w:∀e,e≠b->t[e]? =k[e]? :=λe f=>bo _ _ _ _ f
 have s4:t.size=k.size:=aw _ _ _ _
 refine⟨λe f=>w e (by simp at f;omega),i,C.bU 0,?_⟩
 have B:VR (b::S) d t i (l++[x]):=by
  refine Gr.cv dT.mono (A.re dT.mono (Y:=[b]) ⟨V,λe f j=>w e (by simpa using j)⟩ aL (by simp;exact L) λe f=>Or.inl f) (λG q=>Or.inl q) V
 have G:=B.len be
 have K:i.len=l.length+1:=by rw[G];simp
 refine⟨?_,i,_,⟨C,B,p.up⟩,rfl,⟨V,λe f j=>?_⟩,oh Q.2⟩
 .rw[K,aP V V];congr 1;omega
 .simp only[aS,j7,BP,ui]at j
  rw[w e j.1,u e V j.2,n.same e f]
def Rw{j:Nat}(h:Fs S d c b s l)(o:d.size<=c.size)(r:l[j]? =some x):
 aM cq 234 [vp b 0,vi j] c λ_ K=>Ps S d c b s (l.set j ⟨x.op,0,l.length,0,x.args,x.eG⟩=·) K:=by
 apply xO (b,0)
 simp -zeta only[aC,aB]
 have G:=az r
 have I:=h.gr.len be
 obtain⟨M,⟨q,t,rfl,E,F⟩,jm⟩:=h.gr.cells r
 have w:=jm 0 _ rfl;have y:=jm 1 _ rfl;have z:=jm 2 _ rfl;have A:=jm 3 _ rfl;have B:=jm 4 _ rfl;have C:=jm 5 _ rfl
 refine⟨s,h.box.bU 0,V,V,_,w,_,y,_,z,_,A,_,B,_,C,?_⟩
 intro L e
 have g:J c e:=(J.push c _).ag (ad _) _ _
 have Q:e.size=c.size+1:=by simp[e,L,aw]
 clear_value e
 have i:=h.ext g
 have H:=i.ne
 have O:=h.gr.bh
 have P:=g.size
 refine⟨s,i.box.bU 0,s,i.box.bU 0,V,V,?_⟩
 have g1:VR (b::S) (c.extract 0 d.size) e s l:=Gr.cv dT.mono i.gr (λv m=>Or.inl m) (by rw[nY o];exact ad _)
 rw[I]
 let⟨wr,D,N,p⟩:=Gr.set (k:=j) (cs:=[.i x.op,.i 0,.i l.length,.i 0,.s q,.s t]) (a:=⟨x.op,0,l.length,0,x.args,x.eG⟩) dT.mono g1 (((J.MG o).trans g).fz []) G ⟨q,t,rfl,E.le (g.dg _),F.le (g.dg _)⟩
 refine⟨wr,?_⟩
 intro u
 have R:u.size=e.size:=aw _ _ _ _
 refine⟨λf n=>p f (by simp at n;omega),s,_,⟨i.box.congr (p b (kH H)),Gr.cv dT.mono D (λv m=>Or.inl m) (by rw[nY o];exact ad _),h.up⟩,rfl,⟨V,λf n m=>?_⟩,Or.inl rfl⟩
 simp only[aS,j7,BP,ui]at m
 have v:u[f]? =e[f]? :=p f m.2
 rw[v,g.same f n]
end
section
variable{n a:Nat}
def mU(l b:List Instr)(n:Nat):Prop:=∃a,b=l++a/\(∀(i:Nat)(x:Instr),a[i]? =some x->Pu (l.length+i) x)/\QP a/\a.length<=n
def mU.aA(l:List Instr):mU l l 0:=⟨[],aL,aL,λ_ h=>by simp at h,ad _⟩
def mU.fw{l b:List Instr}(h:mU l b n)(i:n<=a):mU l b a:=let⟨f,c,d,e,g⟩:=h;⟨f,c,d,e,V⟩
def mU.len{l a:List Instr}(h:mU l a n):a.length<=l.length+n:=by obtain⟨b,rfl,_,_,d⟩:=h;simp;omega
def mU.trans{l e f:List Instr}(h:mU l e n)(p:mU e f a):mU l f (n+a):=by
 obtain⟨c,rfl,g,k,s⟩:=h;obtain⟨r,rfl,j,m,t⟩:=p;refine⟨c++r,aL,λi x b=>?_,λx q=>?_,bJ⟩
 .rcases aZ i c.length with d|d
  .rw[ax d]at b;exact g i x b
  .rw[aF d]at b;have:=j _ x b;have o:(l++c).length+(i -c.length)=l.length+i:=bJ;rw[o]at this;exact this
 .rcases List.mem_append.1 q with h|h
  .exact k x h
  .exact m x h
def mU.kX{l:List Instr}{x:Instr}(h:Pu l.length x)(c:x.args.length<=10^12/\x.eG.length<=10^12):mU l (l++[x]) 1:=
 ⟨[x],rfl,λi y a=>by
  have:i=0:=by have:=az a;simp at this;omega
  subst this;simp at a;subst a;exact h,λy b=>by simp at b;subst b;exact c,aL⟩
section
variable{S:List Nat}{d m c:E}{b:Nat}{s e:O}{l f:List Instr}
def Fs.gJ(h:Fs S d m b s l)(f:J d m)(e:Fz [b,s.D] m c):J d c:=by
 have j:=h.gr.bh;have i:=h.up;exact Fz.ext (((f.fz [b,s.D]).trans e).DH λg a=>Or.inr (by simp at a;omega))
def Q0(h:Fz [b,s.D] m c)(f:e.D=s.D\/m.size<=e.D):Le (bP [s.D,b] m) (bP [e.D,b] c):=pP λa g i=>by
 simp at i;refine⟨by simp;rcases f with d|d<;>omega,h.same a g bJ⟩
def Ps.dv{L:List Nat}(f:Fz [b,s.D] m c)(d:∀a∈L,a<m.size/\a≠b/\a≠s.D):dY L m c:=λa e=>f.same a (d a e).1 (by have:=d a e;simp;omega)
end
structure Sx(S:List Nat)(mb m:E)(eb:Nat)(s:O)(l:List Instr)(cons first:O)(cl fl:List Int):Prop where
 em:Fs S mb m eb s l
 x:J mb m
 gJ:∀c∈S,c<m.size
 cons:ar (bP [s.D,eb] m) cons cl
 first:ar (bP [s.D,eb] m) first fl
 same:fl.length=cl.length
 kU:∀y∈fl,0<=y/\y<=900000000000
def Sx.ext{S:List Nat}{e m d:E}{b:Nat}{s:O}{l:List Instr}{cons first:O}{a c:List Int}(h:Sx S e m b s l cons first a c)(x:J m d):Sx S e d b s l cons first a c:=
 ⟨h.em.ext x,h.x.trans x,λf g=>x.lt (h.gJ f g),h.cons.le (x.dg _),h.first.le (x.dg _),h.same,h.kU⟩
def Sx.next{S:List Nat}{e m d:E}{a:Nat}{s c:O}{o j:List Instr}{cons first:O}{f g:List Int}(h:Sx S e m a s o cons first f g)(l:Fs S e d a c j)(b:Fz [a,s.D] m d)(i:c.D=s.D\/m.size<=c.D):Sx S e d a c j cons first f g:=
 ⟨l,h.em.gJ h.x b,λk n=>aO (h.gJ k n) b.size,h.cons.le (Q0 b i),h.first.le (Q0 b i),h.same,h.kU⟩
def Ys(f:List bz)(g:List gP)(x:cV):Prop:=∀(S:List Nat)(a m:E)(c:Nat)(s:O)(l:List Instr)(cons first:O)(b h:List Int)(e r d k:O),Sx S a m c s l cons first b h->WS f g.length True b.length x->b.length+4*x.w<=900000000000->l.length+6*x.w<=10^12->eK a e r f g->ar a d x.args->nP a k x.bE->
 aM cq 219 [vp c 0,.agg #[O.v e,O.v r],pA x d k,O.v cons,O.v first] m λ_ j=>Ps S a m c s (λi=>mU l i (6*x.w)) j
def Xn(f:List bz)(g:List gP)(b:Bk):Prop:=∀(S:List Nat)(a m:E)(d:Nat)(s:O)(l:List Instr)(cons first:O)(c h:List Int)(e r t:O),Sx S a m d s l cons first c h->WB f g.length True c.length b->c.length+4*b.w<=900000000000->l.length+6*b.w<=10^12->eK a e r f g->eN a t b.ap->
 aM cq 204 [vp d 0,.agg #[O.v e,O.v r],.agg #[O.v t,vi b.aT],O.v cons,O.v first] m λ_ j=>Ps S a m d s (λi=>mU l i (6*(b.w -1))) j
end
def tG(m:E):ar m .nil []:=⟨rfl,ad _,aL,aL⟩
def Me{ds:List bz}{rs:List gP}{ap:List cV}{a8:Int}(b:∀a∈ap,a.op=7\/a.op=8->Ys ds rs a):Xn ds rs (.mk ap a8):=by
 intro z mb D f ab ah cons first cl fl aN a7 bw E0 a1 bf bg hn hs
 have a2:=a1.aW;rw[Bk.qQ]at*;simp only[Bk.jW,Bk.jv]at*;apply vC (f,0);simp -zeta only[aC,aB];intro Q F;let⟨x2,hl⟩:=dP (a:=Q) (c:=F) rfl rfl;have s1:Q.size=D.size+1:=by simp[Q]
 have s2:F.size=D.size+2:=by simp[F,s1]
 clear_value F;have a0:=hs.len;have aA:=BH ap;have bm:=fY ap;have bi:=E0.em.box.lt;have bs:=E0.em.gr.bh;have bk:=E0.x.size;refine xw (n:=ap.length) (a0▸hs.iC) (λo cons first M=>∃m P A L,Sx z mb M f m P cons first A L/\A.length=cl.length+dc (ap.take o)/\mU ah P (6*sw (ap.take o))/\Fz [f,ab.D] D M/\(m.D=ab.D\/F.size<=m.D)/\F.size<=M.size) ⟨ab,ah,cl,fl,E0.ext x2,aL,(mU.aA ah).fw (eO _),x2.fz _,Or.inl rfl,ad _⟩ ?_;rintro o cons first M a9 μ hk ⟨m,P,A,L,R,aW,ag,fz,aZ,hM⟩ aI
 have bj:=ag.len;have bo:=aA o;have s:=R.em.gr.bh;refine dit (λk=>?_) λk=>?_
 .let⟨a,Z⟩:=cK ap o;let⟨pa,pk,O,aX,e0,e1,e2,e3,e4⟩:=hs.aG Z;have bq:=qd Z;have bp:=qV Z;have br:=cV.mz a;have bn:=aA (o+1);have bh:=tw (ap.take o);have bl:=fY (ap.take o);have Y:=a2.1 o a Z;rw[<-aW]at Y;have X:=R.x;refine⟨V,V,_,X.af e0,_,X.af e1,_,X.af e2,_,X.af e3,_,X.af e4,?_⟩;intro m3 p;have x4:J M p:=(J.push M _).ag (ad _) _ _;have s4:p.size=M.size+1:=by simp[p,m3,aw]
  clear_value p;have j:=R.ext x4;have N:∀{T:E},p.size<=T.size->∀h∈[M.size,Q.size,D.size],h<T.size/\h≠f/\h≠m.D:=λhz h r=>by simp at r;omega
  have kS:∀{y U:E},p.size<=y.size->J y U->dY [M.size,Q.size,D.size] y U:=λhz xx h r=>xx.same h (N hz h r).1;have C:∀{y U:E},p.size<=y.size->J y U->∀ai,af U M.size ai=af y M.size ai:=λhz xx ai=>aJ (xx.same _ V) ai;have ao:∀{T:E},p.size<=T.size->∀c∈m.D::f::z,c<T.size:=λhz c b=>by
   simp only[aS]at b;rcases b with e|e|e
   .omega
   .omega
   .have:=R.gJ c e;have:=X.size;omega
  refine⟨λI=>∃g u,Sx z mb I f g u cons first A L/\mU P u (6*a.w)/\Fz [f,m.D] p I/\(g.D=m.D\/p.size<=g.D),⟨λh7=>?_,λn7=>⟨λaR=>?_,λa5=>⟨λaT=>?_,λa6=>?_⟩⟩⟩,?_⟩
  .simp only[bV,aE]at h7;refine(b a (au Z) h7 z mb p f m P cons first A L aN a7 pa pk j Y V V hn O aX).mono λv m5⟨g,u,ac,p5,K,b5⟩=>⟨Ps.dv K (N (ad _)),g,u,j.next ac K b5,p5,K,b5⟩
  .simp only[bV,aE]at aR;refine(bR (m.D::f::z) (O.ext j.x) V).mono λv m5⟨a',la,e,ga,ea,d⟩=>⟨kS (ad _) d,a',e,C (ad _) d _,?_⟩;subst ea;have l:=j.ext d;have t:=d.size;refine(qN (x:=⟨a.op,0,0,0,a.args,[]⟩) l.em l.x.size (GI.done ga (ao (ad _)) (by show a.args.length<=_;omega)) (tG _) V).mono λv G⟨ev,s6,l6,al,p6,B,b6⟩=>⟨Ps.dv B (N t),_,ev,s6,l6,l.next al B b6,?_,(d.fz _).trans B,V⟩;subst p6;exact(mU.kX ⟨λk=>by simp only at k;omega,λk=>by simp only at k;omega⟩ ⟨by show a.args.length<=_;omega,aL⟩).fw V
  .simp only[bV,aE]at aT;have bb:=Y.fe.kX V;let⟨H,aq⟩:=cK a.args 0;let⟨y0,y1⟩:=Y.fe.args H (au aq);have bd:=O.len;have c4:=(j.cons.le (bG _ _));have f4:=(j.first.le (bG _ _));have a3:=c4.len;have a4:=f4.len;have aY:=j.same;let⟨cn,aP⟩:=cK A H.toNat;let⟨fn,an⟩:=cK L H.toNat;let⟨a_,ba⟩:=j.kU fn (au an);have F4:=f4.aG an;refine⟨be,V,H,(O.ext j.x).aG aq,y0,V,cn,c4.aG aP,y0,V,fn,F4,?_⟩;refine(dN (e:=[]) aL (hn.bn.le (j.x.le.trans (Al _))) hn.types cn).mono λv m5⟨aU,bt,e,aK,ay,d⟩=>⟨kS (ad _) d,aU,e,by rw[d.af F4,F4],C (ad _) d _,C (ad _) d _,?_⟩;subst ay;have t:=d.size;have F3:=FO hn.types cn;obtain⟨fk,aQ⟩:∃fk:Nat,fn=fk:=⟨fn.toNat,V⟩;subst aQ;refine(sA (S:=[]) aL aK fk V).mono λv G⟨aV,bv,e,aF,am,i⟩=>⟨kS t i,aV,e,C t i _,C t i _,?_⟩;have z6:=i.size;refine(eM (S:=[]) aL ((O.ext (j.x.trans (d.trans i))).le (Al _)) (aF.done um.mono aL be (oh am.2)) (oh am.2)).mono λv m7⟨ax,aa,e,aG,av,q⟩=>⟨kS V q,ax,e,C V q _,?_⟩;have W:=(d.trans i).trans q;have w:=j.ext W;have z7:=q.size;have aH:GI (m.D::f::z) G m7 ax aa:=GI.any aG;have bc:aa.length<=a.args.length+3:=by rw[<-av];simp;have:=am.2;omega
   have aM:0<aa.length:=by rw[<-av];simp;omega
   refine(qN (x:=⟨a.op,0,0,0,aa,[]⟩) w.em w.x.size (aH.done (ao V) V) (tG _) V).mono λv m8⟨ev,s8,l8,az,p8,f8,b8⟩=>⟨Ps.dv f8 (N V),_,ev,s8,l8,w.next az f8 b8,?_,(W.fz _).trans f8,V⟩;subst p8;exact(mU.kX ⟨λk=>by simp only at k;omega,λ_=>aM⟩ ⟨by show aa.length<=_;omega,aL⟩).fw V
  .refine(bR (m.D::f::z) (O.ext j.x) V).mono λv m5⟨a',la,e,ga,ea,d⟩=>⟨kS (ad _) d,a',e,C (ad _) d _,C (ad _) d _,C (ad _) d _,?_⟩;subst ea;simp only[bu,ak]at a5 a6;have l:=j.ext d;have t:=d.size;have aa:a.op<=11:=by
    rcases Y.fe.op with k|k
    .exact k.2
    .omega
   refine(qN (x:=⟨a.op,(cons.len:Int),a.bQ,a.bM,a.args,[]⟩) l.em l.x.size (GI.done ga (ao (ad _)) (by show a.args.length<=_;omega)) (tG _) V).mono λv G⟨ev,s6,l6,al,p6,B,b6⟩=>⟨Ps.dv B (N t),_,ev,s6,l6,l.next al B b6,?_,(d.fz _).trans B,V⟩;subst p6;exact(mU.kX ⟨λk=>by simp only at k;omega,λk=>by simp only at k;omega⟩ ⟨by show a.args.length<=_;omega,aL⟩).fw V
  .rintro I ⟨g,u,l,p5,K,b5⟩;have t:=K.size;have ac:mU ah u (6*sw (ap.take (o+1))):=(ag.trans p5).fw V;have ax:Fz [f,ab.D] D I:=(fz.then x4).sF K λH s=>by
    simp only[aS,j7,BP]at s⊢;rcases s with e|e
    .exact Or.inl (Or.inl e)
    .rcases aZ with d|d
     .exact Or.inl (Or.inr V)
     .exact Or.inr V
   have ay:g.D=ab.D\/F.size<=g.D:=V;have bb:=l.em.gr.bh;have am:∀h∈[M.size,Q.size,D.size],h<I.size:=λh r=>aO (N (ad _) h r).1 t;have az:=λh r=>tz a h r;refine(jP a.op I).mono λv G⟨h,e,r,i⟩=>⟨λc b=>i.same c (am c b),h,e,λht=>?_,λhf=>?_⟩
   .have hd:=az h r;rw[aj ht]at hd;intro m7;have q:J G m7:=J.push _ _;have ba:=l.em.box.lt;have z6:=i.size;have aa:∀c∈[g.D,f],c<G.size:=λc b=>by simp at b;omega
    have a3:ar (bP [g.D,f] m7) (.mk G.size 0 1 1) [0]:=ar.lit aD [0] aa rfl rfl aL;have W:=i.trans q;have w:=l.ext W;have a_:=w.cons.len;refine(eM (S:=[g.D,f]) (λc b=>q.lt (aa c b)) w.cons a3 bJ).mono λv m8⟨aK,aF,e,aP,aq,x8⟩=>⟨λc b=>x8.same c (q.lt (i.lt (am c b))),aK,e,?_⟩;intro m9;have d:J m8 m9:=J.push _ _;have z7:=q.size;have z8:=x8.size;have an:∀c∈[g.D,f],c<m8.size:=λc b=>by have:=aa c b;omega
    have a4:ar (bP [g.D,f] m9) (.mk m8.size 0 1 1) [0]:=ar.lit aD [0] an rfl rfl aL;have E9:=w.ext (x8.trans d);have aY:=E9.same;refine(eM (S:=[g.D,f]) (λc b=>d.lt (an c b)) E9.first a4 bJ).mono λv aH⟨aM,aG,e,aQ,av,B⟩=>⟨λc b=>B.same c (d.lt (x8.lt (q.lt (i.lt (am c b))))),aM,e,?_⟩;have al:=E9.ext B;have aU:ar (bP [g.D,f] aH) aK aF:=(GI.done aP (λc b=>q.lt (aa c b)) (by rw[<-aq];simp;omega)).le ((d.trans B).dg _);have aV:ar (bP [g.D,f] aH) aM aG:=GI.done aQ (λc b=>d.lt (an c b)) (by rw[<-av];simp;omega);refine aI V _ _ _ ⟨g,u,aF,aG,⟨al.em,al.x,al.gJ,aU,aV,by rw[<-aq,<-av];simp;omega,λH s=>?_⟩,by rw[<-aq];simp;omega,ac,ax.then (((W.trans x8).trans d).trans B),ay,?_⟩
    .rw[<-av]at s;rcases List.mem_append.1 s with s|s
     .exact l.kU H s
     .simp at s;omega
    .have:=d.size;have:=B.size;omega
   .have hd:=az h r;rw[ae (by simp[hf])]at hd;exact aI V _ _ _ ⟨g,u,A,L,l.ext i,V,ac,ax.then i,ay,oh i.size⟩
 .have a:o=ap.length:=V;subst a;rw[fy]at ag;exact⟨m,P,R.em,ag.fw V,fz,V⟩
section
variable{m:E}
def Fu(m:E)(s:O):Prop:=s.len<=s.cap/\∀k:Nat,k<s.len->∃v:Int,0<=v/\v<=255/\af m s.D (s.off+k*1)=some (.int .u8 v)
def IA{cX:O}(h:Fu m cX):aM cq 30 [O.v cX] m λv i=>∃a,v=vp m.size 0/\Rd m.size a 0 i/\J m i:=by
 let⟨g,f⟩:=h;apply Bf;have R:∀a:O,Fu m a->∃l,vp m.size 0=vp m.size 0/\Rd m.size l 0 (m.push (.cells (bA [.s a,.i 0]) qj))/\J m (m.push (.cells (bA [.s a,.i 0]) qj)):=λa⟨n,o⟩=>by
  refine⟨a,rfl,⟨⟨0,cw.push _ _ _,cY _,aL⟩,n,λk c=>?_⟩,J.push _ _⟩;let⟨v,d,e,b⟩:=o k c;have s:=mW b;exact⟨v,d,e,eF.2 ⟨bJ,(J.push m _).af b⟩⟩
 refine⟨λh=>?_,λ_=>R cX ⟨g,f⟩⟩;simp only[aq]at h;refine⟨be,be,V,?_⟩;refine R _ ?_;cases cX with
 |nil=>simp at h
 |zT j p q=>simp at h
 |mk j p t q=>
  simp only[O.iS,O.Ov]at h g;refine⟨by simp[O.cut];omega,λk c=>?_⟩;have r:k<2000:=by simpa[O.cut]using c
  let⟨v,d,e,b⟩:=f k bJ;exact⟨v,d,e,by simpa[O.cut]using b⟩
def KB(f:Nat)(b:List Value)(m:E)(S:List Nat)(Q:Ex->Prop):Prop:=aM cq f b m λv a=>∃s e,v=.agg #[vi e.op,vi e.bQ,O.v s]/\fF (bP S a) s e.bE/\Q e/\J m a
def AW(S:List Nat)(n:Int)(m:E):KB 280 [vi n] m S (.mk 0 n []=·):=by
 apply EL;simp -zeta only[aC,aB];intro a b d;have c:J m b:=(J.push m _).trans (J.push a _);exact⟨_,.mk 0 n [],rfl,mK _ _ _ _ _ _,rfl,c.ag (ad _) _ _⟩
def mw(S:List Nat)(n:Int)(m:E):KB 315 [vi n] m S (.mk 12 n []=·):=by
 apply Di;simp -zeta only[aC,aB];intro a b d;have c:J m b:=(J.push m _).trans (J.push a _);exact⟨_,.mk 12 n [],rfl,mK _ _ _ _ _ _,rfl,c.ag (ad _) _ _⟩
def Jx{S:List Nat}{s:O}{bE:List Ex}(h:fF (bP S m) s bE)(a bQ:Int):KB 313 [vi a,vi bQ,O.v s] m S (.mk a bQ bE=·):=by
 apply J8;simp -zeta only[aC,aB];intro d c;have b:J m c:=(J.push m _).ag (ad _) _ _;exact⟨s,.mk a bQ bE,rfl,h.le (b.dg _),rfl,b⟩
def Br{a P:Nat}{b:O}(r:Rd a b P m)(x:P+4<=10^16):aM cq 332 [vp a 0] m λv h=>∃k:Int,v=vi k/\Rd a b (P+4) h/\Fz [a] m h:=by
 apply EY (a,0);refine(cD r V 6).mono λv y⟨d,e,_,_,s,n⟩=>⟨d,e,?_⟩;refine(cD s V 6).mono λv z⟨f,e,_,_,t,o⟩=>⟨f,e,?_⟩;refine(cD t V 40).mono λv i⟨g,e,_,_,c,p⟩=>⟨g,e,?_⟩;intro j;have l:J i j:=J.push _ _;have w:ar (bP [a] j) (.mk i.size 0 10 10) [d,f,0,1,2,-1,3,g,999,-998]:=ar.lit aD _ (by have:=c.lt;simpa using this) rfl rfl aL;refine(k8 (c.ext l) V w aL).mono λv A⟨k,e,_,u,q⟩=>⟨k,e,k,rfl,u,((n.trans o).trans p).then l|>.trans q⟩
end
section
variable{m:E}
def Z4(e:Ex):Prop:=∀(m:E)(t:O),fF m t e.bE->∀left:Int,left<=600->tq 317 [.agg #[vi e.op,vi e.bQ,O.v t],vi left] m λk=>k= -1\/0<=k/\k+e.n=left
def IC:∀e:Ex,Z4 e:=by
 refine Ex.ind ?_;intro L bQ bE s m N c left F;simp only[Ex.Wo,Ex.Un,Ex.Sc,Ex.SN]at*;apply Bg;simp -zeta only[aC,aB];intro a;have f:J m a:=J.push _ _;have p:∀h∈[m.size],h<a.size:=by simp[a]
 clear_value a;have d:∀{M:E},J m M->∃k:Int,vi (-1:Int)=vi k/\(k= -1\/0<=k/\k+((1+en bE:Nat):Int)=left)/\J m M:=λB=>⟨-1,rfl,Or.inl rfl,B⟩;refine⟨λ_=>d f,λl=>?_⟩;simp only[bD]at l;have r:=c.len;rw[aP (b:=left -1) V V];refine dV (n:=bE.length) (r▸c.iC) (λk(v:Int) M=>J a M/\0<=v/\v+1+en (bE.take k)=left) ⟨J.aA _,V,aL⟩ ?_;rintro k v M I μ D ⟨g,z,A⟩ t
 have u:=f.trans g;refine dit (λj=>?_) λj=>?_
 .let⟨e,b⟩:=cK bE k;let⟨w,q,i,g1,g2⟩:=c.aG b;refine⟨V,V,_,u.af i,_,u.af g1,_,u.af g2,?_⟩;refine(s e (au b) M w (fF.le u.le q) v V).aK g p λK H G C y=>⟨_,rfl,λ_=>d (u.trans C),λo=>?_⟩;simp only[bD]at o;refine t V _ _ ⟨y,V,?_⟩
  rw[Kq b];omega
 .rw[cJ V]at A;exact⟨v,rfl,Or.inr ⟨z,V⟩,u⟩
def Bh{t:O}{e:Ex}(h:fF m t e.bE):tq 286 [.agg #[vi e.op,vi e.bQ,O.v t]] m λk=>k= -1\/k=e.n/\e.n<=30:=by
 apply ER;simp -zeta only[aC,aB];intro a;have b:J m a:=J.push _ _;have g:∀d∈[m.size],d<a.size:=by simp[a]
 clear_value a;refine(IC e a t (fF.le b.le h) 30 be).aK (J.aA a) g λn j i c l=>⟨_,rfl,λ_=>⟨-1,rfl,Or.inl rfl,b.trans c⟩,λf=>?_⟩;simp only[bD]at f;rw[aP (b:=30 -n) V V];exact⟨_,rfl,Or.inr ⟨V,V⟩,b.trans c⟩
def Mp{s:O}{l:List Int}(h:ar m s l)(e:Int):tq 279 [O.v s,vi e] m λk=>-1<=k/\k<l.length:=by
 apply EV;have c:=h.len;refine fm (n:=l.length) (c▸h.iC) (λ_ M=>J m M) (J.aA _) ?_;rintro k M I μ g a f
 refine⟨λb=>?_,λ_=>⟨-1,rfl,⟨V,V⟩,a⟩⟩;simp only[aq]at b;let⟨x,d⟩:=cK l k;exact⟨V,V,x,(h.ext a).aG d,λ_=>⟨k,rfl,⟨V,V⟩,a⟩,λ_=>f V _ a⟩
def Mb(f:O)(m:E):aM cq 215 [O.v f] m λv a=>v=.agg #[O.v f]/\J m a:=by
 apply Ma;simp -zeta only[aC,aB];intro b c;exact⟨trivial,(J.push m _).ag (ad _) _ _⟩
def Ry(p:O)(r:Int)(m:E):aM cq 250 [O.v p,vi r] m λv a=>v=.agg #[O.v p,vi r,vi 0,vi 0,O.v .nil]/\J m a:=by
 apply Mq;simp -zeta only[aC,aB];intro b c;exact⟨trivial,(J.push m _).ag (ad _) _ _⟩
end
section
variable{b:List Nat}{m:E}{c d p:O}{a:List dA}
def Hb(q:∀a∈b,a<m.size){l:List Int}(h:ar m c l)(w:l.length<=10^12)(u:Int):ln 333 [O.v c,vi u] m b λa=>(∀y∈a,0<=y/\y<(l.length:Int))/\a.length<=l.length:=by
 apply zB;intro B;have r:=h.len;refine dV (n:=l.length) (r▸h.iC) (λk s M=>J m M/\∃a,GI b m M s a/\(∀y∈a,0<=y/\y<(l.length:Int))/\a.length<=k) ⟨J.push m _,[],GI.nil b m,aL,ad _⟩ ?_;rintro k s M I μ z ⟨e,a,g,f,A⟩ j
 refine⟨λi=>?_,λi=>⟨s,a,rfl,g,⟨f,V⟩,e⟩⟩;simp only[aq]at i;let⟨x,t⟩:=cK l k;refine⟨V,V,x,(h.ext e).aG t,λ_=>?_,λ_=>j V _ _ ⟨e,a,g,f,V⟩⟩;intro C;exact GI.kL g (e.fz []) q V λD v p o _ _=>j V _ _ ⟨o.ext,_,p,λy d=>by
  rcases List.mem_append.1 d with d|d
  .exact f y d
  .simp at d;omega,bJ⟩
def TG(m:E)(b:List Ce)(p:dA):Prop:=∃a x y z,b=[.s a,.i p.aT,.i x,.i y,.s z]/\ar m a p.params
abbrev pI(m:E)(s:O)(l:List dA):Prop:=eR m 5 (TG m) s l
def TG.le{m b:E}(h:Le m b){a:List Ce}{p:dA}:TG m a p->TG b a p:=λ⟨c,x,y,z,d,e⟩=>⟨c,x,y,z,d,e.le h⟩
def pI.le{m b:E}(a:Le m b){s:O}{l:List dA}(h:pI m s l):pI b s l:=eR.le h a λ_ _=>TG.le a
def pI.aG{s:O}{l:List dA}(h:pI m s l){k:Nat}{p:dA}(d:l[k]? =some p):∃a,ar m a p.params/\af m s.D (s.off+k*5)=some (O.v a)/\af m s.D (s.off+k*5+1)=some (vi p.aT):=by
 obtain⟨e,⟨a,x,y,z,rfl,c⟩,b⟩:=h.iF k p d;exact⟨a,c,b 0 _ rfl,b 1 _ rfl⟩
def ClQ(b:List bz)(a:List dA)(t y:Int):Prop:=∃(f:Nat)(q:dA),y=f/\a[f]? =some q/\0<q.params.length/\(0<t->∃d∈b,d.cons.length=0/\q.params.getLast?=some d.uN/\q.aT=d.to)
def yy(X:∀g∈b,g<m.size){h:List bz}(hd:cy m d h)(ht:dU h)(o:pI m p a)(hf:a.length<=1000)(v:Int):ln 339 [.agg #[O.v d,O.v p],vi v] m b λc=>(∀y∈c,ClQ h a v y)/\c.length<=a.length:=by
 apply CA;simp -zeta only[aC,aB];intro e q;have z:J m e:=J.push _ _;have G:∀g∈[m.size],g<e.size:=by simp[e]
 have R:GI b e q (.mk e.size 0 0 0) []:=GI.nil b e;have x2:J e q:=J.push _ _;clear_value q;clear_value e;have aa:=o.len;refine dV (n:=a.length) (aa▸o.iC) (λk t M=>J e M/\∃c,GI b e M t c/\(∀y∈c,ClQ h a v y)/\c.length<=k) ⟨x2,[],R,aL,ad _⟩ ?_;rintro k t M ac μ hk ⟨A,c,i,j,af⟩ r
 have u:=z.trans A;refine⟨λF=>?_,λF=>⟨t,c,rfl,i.cv (λ_ E=>E) z.size,⟨j,V⟩,u⟩⟩;simp only[aq]at F;let⟨s,I⟩:=cK a k;let⟨B,l,C,P⟩:=o.aG I;have ae:=l.len;have ag:=l.iC;refine⟨V,V,_,u.af C,λS=>?_,λ_=>r V _ _ ⟨A,c,i,j,V⟩⟩;simp only[aq]at S;rw[aP (b:=(B.len:Int) -1) V V];let⟨y,K⟩:=cK s.params (((B.len:Int) -1).toNat);refine⟨V,V,_,u.af C,V,V,y,(l.ext u).aG K,V,V,_,u.af P,?_⟩;refine(AB (hd.le u.le) ht y s.aT).aK A G λai m3 H L w=>⟨_,rfl,λZ=>?_,λ_=>r V _ _ ⟨w,c,i.ext L,j,V⟩⟩;intro m4;refine GI.kL (i.ext L) (w.fz []) (λg f=>z.lt (X g f)) V λaj M' Q D _ _=>⟨J.oQ (w.aH _) D.ext G,r V _ _ ⟨D.ext,_,Q,λab f=>?_,bJ⟩⟩;rcases List.mem_append.1 f with f|f
 .exact j ab f
 .simp at f Z;refine⟨k,s,f,I,V,λE=>?_⟩;rcases H with H|⟨ah,N,_,Y,T,U,W⟩
  .omega
  .refine⟨N,au Y,T,?_,W.symm⟩;rw[List.getLast?_eq_getElem?,U,<-K];congr 1;omega
def p7{j:List bz}{v:List Int}(hd:cy m d j)(k:dU j)(q:pI m p a)(o:a.length<=1000)(r:ar m c v)(t:Int):oX 334 [.agg #[O.v d,O.v p],O.v c,vi t] m:=by
 apply EA;simp -zeta only[aC,aB];intro b;have g:J m b:=J.push _ _;have f:∀n∈[m.size],n<b.size:=by simp[b]
 clear_value b;refine(nk (hd.le g.le) k t).any.aK (J.aA b) f λl x h _=>⟨_,rfl,λ_=>rA (g.trans h),λ_=>?_⟩;have e:=g.trans h;refine(yy (b:=[]) aL (hd.le e.le) k (pI.le e.le q) o t).aK h f λA w y _ _ i s=>⟨_,rfl,λ_=>rA (e.trans i),λ_=>?_⟩;exact(dw (r.ext (e.trans i)) t).any.aK s f λl z u _=>⟨_,rfl,rA ((e.trans i).trans u)⟩
end
def LY{a P:Nat}{p:O}{m:E}(h:Rd a p P m)(Q:P+1<=10^16){q v x:O}{i:List bz}{r:List dA}{L:List Int}(hd:cy (bP [a] m) q i)(H:dU i)(G:pI (bP [a] m) v r)(B:r.length<=1000)(I:ar (bP [a] m) x L):
 aM cq 327 [vp a 0,.agg #[O.v q,O.v v],O.v x] m λw u=>∃k:Int,w=vi k/\(k=1\/0<=k/\k<=4/\k<=i.length)/\Rd a p (P+1) u/\Fz [a] m u:=by
 apply Ey (a,0)
 simp -zeta only[aC,aB]
 intro b d
 have U:b.size=m.size+1:=by simp[b]
 have M:J m b:=J.push _ _
 have y:J b d:=J.push _ _
 have z:J m d:=M.trans y
 have S:=h.lt
 have t:∀c∈[m.size],c<d.size/\c∉[a]:=λc n=>by have:=y.size;simp at n⊢;omega
 have K:ar (bP [a] d) (.mk b.size 0 7 7) [1,1,3,0,2,4,3]:=ar.lit aD _ bJ rfl rfl aL
 clear_value d
 have R:=hd.len
 refine(k8 (h.ext z) V K aL).mono λw f⟨k,A,C,l,j⟩=>⟨j.dv t,k,A,?_⟩
 have e:Fz [a] m f:=(z.fz _).trans j
 have s:0<=k/\k<=4:=by simp at C;omega
 refine⟨λ_=>⟨1,rfl,Or.inl rfl,l,e⟩,λF=>?_⟩
 simp only[bD]at F
 have o:Le (bP [a] m) f:=(e.dg λ_ h=>h).trans (bG _ _)
 have D:∀c∈[m.size],c<f.size:=λc n=>aO (t c n).1 j.size
 refine(p7 (hd.le o) H (pI.le o G) B (I.le o) k).aK (J.aA f) D λN T g _=>⟨_,rfl,λ_=>⟨1,rfl,Or.inl rfl,l.ext g,e.then g⟩,λ_=>⟨k,rfl,Or.inr ⟨s.1,s.2,V⟩,l.ext g,e.then g⟩⟩

section
variable{t:Int}{x:Ex}
def KJ:List bz:=[⟨0,0,[[],[0,1]]⟩,⟨0,0,[]⟩,⟨0,0,[[],[3,0,3]]⟩]
def Sd:List bz:=[⟨0,0,[[1,3]]⟩,⟨1,0,[]⟩,⟨0,0,[[1,1,0],[0],[3]]⟩,⟨0,1,[]⟩]
def rY:List (List bz):=KJ::Sd.map λd=>KJ++[d]
def PC:List (List Int×Int):=[([],0),([1],0),([1,1],1),([1],1),([1,0],1),([2,1],1),([1,1],0),([3],0),([0],1),([0,1],1),([3,0],3),([3],1),([1,3,0],0),([0],0),([0,0],0),([1,0],0)]
structure GP(ds:List bz)(fs:List dA):Prop where
 ds:ds∈rY
 iY:0<fs.length
 oK:fs.length<=4
 dx:∀q∈fs,(q.params,q.aT)∈PC
def Lo(t:Int):Prop:=t=0\/t=1\/t=3
instance(t:Int):Decidable (Lo t):=inferInstanceAs (Decidable (_\/_))
def Ty(a:List bz)(t:Int):Prop:=0<=t/\t<=(a.length:Int)
instance(a:List bz)(t:Int):Decidable (Ty a t):=inferInstanceAs (Decidable (_/\_))
section
variable{a:List bz}{b:List dA}
def pL:∀a∈rY,3<=a.length/\a.length<=4:=be
def QS:∀a∈rY,∀t∈[(0:Int),1,2,3,4],∀c∈(cx a t).take 2,((cx a t).head?=some c\/t∉cF a c)->(cF a c).length<=3/\(∀f∈cF a c,Lo f)/\(Lo t->(cF a c).length=0):=be
def RN:∀a∈rY,0<(cx a 1).length/\0<(cx a 3).length/\(cx a 0).length=0:=be
def QQ:∀a∈rY,∀d∈a,d.cons.length=0->∀s∈PC,s.1.getLast?=some d.uN->s.2=d.to->∀f∈s.1.dropLast,Lo f:=be
def Nw:∀a∈rY,cx a 1=[0,1]/\cx a 3=[2,3]/\cF a 0=[]/\cF a 1=[0,1]/\cF a 2=[]/\cF a 3=[3,0,3]:=be
def zK:∀a∈rY,(∀t∈[(0:Int),1,2,3,4],∀c∈cx a t,(cF a c).length<=3/\∀f∈cF a c,Ty a f)/\(∀t∈[(0:Int),1,2,3,4],(cx a t).length<=3)/\(∀d∈a,Ty a d.uN):=be
def QR:∀a∈rY,∀t∈[(1:Int),3,4],(t:Int)<=a.length->(∀d∈a[t.toNat -1]?,d.cons.length≠0)->0<(cx a t).length:=be
def xk:∀s∈PC,s.1.length<=3/\(∀t∈s.1,0<=t/\t<=3)/\0<=s.2/\s.2<=3:=be
def Vp(a:0<=t)(b:t<=4):t∈[(0:Int),1,2,3,4]:=bJ
def Ty.YS(hd:a∈rY)(h:Ty a t):t∈[(0:Int),1,2,3,4]:=Vp h.1 (Qb (pL a hd) h.2)
def GP.ty(h:GP a b)(c:0<=t)(d:t<=3):Ty a t:=⟨c,oh (pL a h.ds)⟩
def Lo.ty(hd:a∈rY)(h:Lo t):Ty a t:=by have:=pL a hd;unfold Lo at h;constructor<;>omega
end
def TJ:∀a∈rY,∀d∈a,0<d.cons.length->d.cons.length<=3/\d.uN=0/\d.to=0/\∀f∈d.cons,f.length<=3/\∀t∈f,0<=t/\t<=(a.length:Int):=be
def TL:∀a∈rY,∀k∈List.range a.length,∀d∈a[k]?,d.cons.length=0->(∀e∈a.take k,¬(e.cons.length=0/\e.uN=d.uN/\e.to=d.to))/\Ty a d.uN/\Ty a d.to:=be
def tr{a:List bz}(h:a∈rY):dU a:=
 ⟨(pL a h).2,λk d b=>⟨TJ a h d (au b),TL a h k (List.mem_range.2 (az b)) d b⟩⟩
structure XF(ds:List bz)(nf a:Nat)(op bQ:Int)(n:Nat):Prop where
 o:0<=op/\op<=13
 UG:op=12->0<=bQ/\bQ<(a:Int)
 Km:op=13->n=2
 ZA:op=7->n=3
 all:op=8->n=1+(cx ds bQ).length/\0<(cx ds bQ).length
 call:op=9->0<=bQ/\bQ<(nf:Int)
def xb(b:List bz)(a bQ:Int):Nat->Nat
 |0=>0
 |i+1=>if a=13 then 1 else BR b a bQ i
inductive WX(ds:List bz)(nf:Nat):Nat->Ex->Prop
 |mk {a:Nat} {op bQ:Int} {bE:List Ex} (fe:XF ds nf a op bQ bE.length) (hk:∀(i:Nat)(e:Ex),bE[i]? =some e->WX ds nf (a+xb ds op bQ i) e):WX ds nf a (.mk op bQ bE)
section
variable{b:List bz}{c a:Nat}{d bQ:Int}{bE:List Ex}
def WX.aW{e:Ex}(h:WX b c a e):XF b c a e.op e.bQ e.bE.length/\∀(i:Nat)(x:Ex),e.bE[i]? =some x->WX b c (a+xb b e.op e.bQ i) x:=by
 cases h with
 |mk fe d=>exact⟨fe,d⟩
def ZC(a:d≠13)(c:d≠8)(i:Nat):xb b d bQ i=0:=by
 cases i with
 |zero=>rfl
 |succ i=>show(if d=13 then 1 else BR b d bQ i)=0;rw[ae a,KL c]
def WX.fe(k:0<=d/\d<=11)(g:d=7->bE.length=3)(f:d≠8)(i:d=9->0<=bQ/\bQ<(c:Int))(j:∀e∈bE,WX b c a e):WX b c a (.mk d bQ bE):=
 .mk ⟨⟨V,V⟩,λh=>V,λh=>V,g,λh=>absurd h f,i⟩ λl e h=>by rw[ZC V f];exact j e (au h)
def WX.int(n:Int):WX b c a (.mk 0 n []):=.fe be (λh=>V) be (λh=>V) aL
def WX.UG(h:0<=bQ/\bQ<(a:Int)):WX b c a (.mk 12 bQ []):=.mk ⟨be,λ_=>h,λh=>V,λh=>V,λh=>V,λh=>V⟩ aL
def WX.lt{y:Ex}(e:WX b c a x)(f:WX b c (a+1) y):WX b c a (.mk 13 0 [x,y]):=
 .mk ⟨be,λh=>V,λ_=>rfl,λh=>V,λh=>V,λh=>V⟩ λi g d=>by
  rcases i with _|_|i
  .simp at d;subst d;exact e
  .simp at d;subst d;exact f
  .simp at d
def WX.mt{l:List Ex}(k:WX b c a x)(n:l.length=(cx b bQ).length)(m:0<l.length)(j:∀(i:Nat)(e:Ex)(f:Int),l[i]? =some e->(cx b bQ)[i]? =some f->WX b c (a+(cF b f).length) e):WX b c a (.mk 8 bQ (x::l)):=
 .mk ⟨be,λh=>V,λh=>V,λh=>V,λ_=>⟨bJ,V⟩,λh=>V⟩ λi e d=>by
  rcases i with _|i
  .simp at d;subst d;exact k
  .simp at d;let⟨f,g⟩:=cK (cx b bQ) i (oh (az d));have:=j i e f d g;show WX b c (a+BR b 8 bQ i) e;rw[KK rfl g];exact this
end
end
section
variable{X:List Nat}{b k c:Nat}{s:O}
structure GC(rb:Nat)(bs:O)(P:Nat)(d p:O)(ds:List bz)(fs:List dA)(m:E):Prop where
 rd:Rd rb bs P m
 hd:cy (bP [rb] m) d ds
 hp:pI (bP [rb] m) p fs
 gp:GP ds fs
def Lw(a:Nat)(L:List Nat)(m:E):Prop:=∀b∈L,b<m.size/\b≠a
def XP(S:List Nat)(b:Nat)(c:O)(m:E)(P:Nat)(Q:Ex->Prop)(v:Value)(a:E):Prop:=∃s e,v=.agg #[vi e.op,vi e.bQ,O.v s]/\fF (bP S a) s e.bE/\Q e/\Rd b c P a/\Fz [b] m a
abbrev IR(a:Nat)(m:E)(s:O)(l:List Int):Prop:=ar (bP [a] m) s l
section
variable{e P i:Nat}{h d p:O}{l:List bz}{n:List dA}{m M g:E}{S L:List Nat}{f:Nat}{j:List Value}{Q Q':Ex->Prop}
def fh(f:Fz [e] m M):Le (bP [e] m) (bP [e] M):=f.dg λ_ h=>h
def GC.to(a:GC e h P d p l n m)(f:Fz [e] m M)(r:Rd e h i M):GC e h i d p l n M:=⟨r,a.hd.le (fh f),pI.le (fh f) a.hp,a.gp⟩
def GC.ext(a:GC e h P d p l n m)(x:J m M):GC e h P d p l n M:=a.to (x.fz _) (a.rd.ext x)
def GC.types(a:GC e h P d p l n m):dU l:=tr a.gp.ds
def Lw.fz(h:Lw e L m)(f:Fz X m M):Lw e L M:=λb a=>⟨aO (h b a).1 f.size,(h b a).2⟩
def Lw.lt(h:Lw e L m)(f:Fz X m M):∀b∈L,b<M.size:=λb a=>(h.fz f b a).1
def Lw.dv(h:Lw e L m)(f:Fz [e] m M):dY L m M:=f.dv λb a=>⟨(h b a).1,by have:=(h b a).2;simpa using this⟩
def Lw.bU(h:Lw e L m)(f:Fz [e] m M)(c:Fz [e] M g)(a:b∈L)(o:Nat):af g b o=af M b o:=aJ (c.same b (h.fz f b a).1 (by have:=(h b a).2;simpa using this)) o
def XP.mono{P i:Nat}(k:∀a,Q a->Q' a)(j:P<=i){v:Value}:XP S e h m P Q v M->XP S e h m i Q' v M:=λ⟨s,a,b,c,d,f,g⟩=>⟨s,a,b,c,k a d,f.mono j,g⟩
def XP.then{K:Value->E->Prop}(c:aM cq f j M (XP S e h M P Q))(m:Lw e L M)(n:∀s a g,fF (bP S g) s a.bE->Q a->Rd e h P g->Fz [e] M g->K (.agg #[vi a.op,vi a.bQ,O.v s]) g):aM cq f j M λv g=>dY L M g/\K v g:=
 c.mono λv g⟨s,a,d,i,k,l,b⟩=>⟨m.dv b,d▸n s a g i k l b⟩
def Lw.tO(h:Lw e L m)(f:Fz [e] m M)(a:Fz [e] m g):dY L M g:=λb c=>by
 have:=h b c;rw[f.same b this.1 (by simpa using this.2),a.same b this.1 (by simpa using this.2)]
def XP.ret{p:Nat}(q:aM cq f j M (XP (b::S) e h M P Q))(t:Lw e L M)(o:Fz [e] m M)(r:Rd e h p m)(n:m.size<=b)(v:∀a,Q a->Q' a)(u:P<=i):
 aM cq f j M λA g=>dY L M g/\∃c d:Int,∃k:O,A=.agg #[vi c,vi d,O.v k]/\XP S e h m i Q' (.agg #[vi c,vi d,O.v k]) (ag g b 0 [.i c,.i d,.s k]):=
 XP.then q t λs a g z y w l=>⟨_,_,_,rfl,s,a,rfl,fF.le (cB aL λB x=>ai _ x) z,v a y,r.ag (w.mono u) (o.trans l) n 0 _,(o.trans l).ag (Or.inr n) _ _⟩
abbrev GE(S:List Nat)(a m:E)(s:O)(l:List Ex):Prop:=Gr S a m bK 3 BQ s l
def XP.kL{B:Nat}{i:E}{s:O}{n:List Ex}{K:O->E->Prop}(D:aM cq f j M (XP (s.D::S) e h M P Q))(t:GE S i M s n)(z:Fz [e] i M)(w:Lw e L i)(u:Rd e h B i)(H:e∈S)(l:n.length<=1000)
 (F:∀c r g,Q c->GE S i g r (n++[c])->Rd e h P g->Fz [e] i g->Fz [e,s.D] M g->(r.D=s.D\/M.size<=r.D)->K r g):
 aM cq f j M λN k=>dY L M k/\∃o p:Int,∃q:O,N=.agg #[vi o,vi p,O.v q]/\
  jM (k.push (.cells (bA [.i o,.i p,.s q]) bK)) bK [.i 0,.i 0,.s .nil] 40 s (O.mk k.size 0 1 1) λr g=>dY L (k.push (.cells (bA [.i o,.i p,.s q]) bK)) g/\K r g:=
 XP.then D (w.fz z) λU c k J G x d=>⟨_,_,_,rfl,by
  have T:=t.bh;have I:=u.lt;have v:=z.trans d;refine Gr.kL (g:=[.i 0,.i 0,.s .nil]) (k:=c) BQ.mono be (t.dQ BQ.mono d (by simp;exact⟨H,I⟩)) v (by cases c;exact BQ.of J) V λr g C m R A=>⟨w.tO (v.push _) m,F c r g G C (u.OK x m (A e x.lt V)) m ⟨bX d.size R.1,λb y l=>?_⟩ (oh d.size)⟩;simp only[aS,j7,BP,ui]at l;rw[A b (aO y d.size) l.2,d.same b y (by simpa using l.1)]⟩
def YU{b:E}(h:Fz [e,k] b M)(d:s.D=k\/b.size<=s.D)(a:Fz [e,s.D] M g):Fz [e,k] b g:=
 h.sF a λy c=>by simp at c⊢;omega
end
def nl{S:List Nat}{d P:Nat}{b:O}{m:E}{bE:List Ex}(j:Rd d b P m)(h:fF (bP S m) s bE)(a bQ:Int):aM cq 313 [vi a,vi bQ,O.v s] m (XP S d b m P (.mk a bQ bE=·)):=
 (Jx h a bQ).mono λv l⟨k,e,f,g,i,c⟩=>⟨k,e,f,g,i,j.ext c,c.fz _⟩
def Ya(b:List bz)(d:List dA)(c:Nat)(e:Ex):Prop:=(∀a,WX b d.length a e)/\e.n<=c
def Xv(c k:Nat)(e:List bz)(f:List dA)(t:Int):Prop:=∀(S:List Nat)(a P:Nat)(b d p:O)(m:E),(∀g∈S,g<m.size)->a∈S->GC a b P d p e f m->P+k<=10^16->
 aM cq 335 [vp a 0,.agg #[O.v d,O.v p],vi t] m (XP S a b m (P+k) (Ya e f c))
def Sp{a:List bz}{b:List dA}{l:List Ex}{f i:Int}(m:f=6\/f=10)(h:∀e∈l,Ya a b 1 e)(k:l.length+1<=c):Ya a b c (.mk f i l):=
 ⟨λg=>.fe V (λh=>V) V (λh=>V) λe d=>(h e d).1 g,by
  rw[Ex.SN];have:∀l:List Ex,(∀e∈l,Ya a b 1 e)->en l<=l.length:=λl=>by
   induction l with
   |nil=>simp
   |cons x l j=>intro h;rw[Oy,aV];have:=(h x aL).2;have:=j λe d=>h e (by simp[d]);omega
  have:=this l h;omega⟩
def Jw{d:List bz}{fs:List dA}{t:Int}(ht:Ty d t)(D:(Lo t/\c=1/\k=5)\/((∀a,Lo a->Xv 1 5 d fs a)/\c=4/\k=20)):Xv c k d fs t:=by
 intro r f B H ao aw am hS aa a hP;apply Dd (f,0);simp -zeta only[aC,aB];intro m ab;let⟨x2,hl⟩:=dP (a:=m) (c:=ab) rfl rfl;have s1:m.size=am.size+1:=by simp[m]
 clear_value ab;have hr:=a.rd.lt;have L2:Lw f [m.size,am.size] ab:=λb K=>⟨hl b K,by simp at K;omega⟩;have Y:=a.types;have h5:=Ty.YS a.gp.ds ht;have ag:∀e∈m.size::r,e<ab.size:=bT hS x2.size (hl _ aL);have c2:=a.ext x2;refine(ic (e:=[f]) (by simp;exact c2.rd.lt) (c2.hd.le (bG _ _)) Y t).mono λA m3⟨cs,l,e,hc,q,G⟩=>⟨L2.dv (G.fz _),cs,e,?_⟩;subst q;have u:=c2.ext G;have N:=L2.fz (G.fz []);have u3:=x2.trans G;have aN:=hc.len;refine dit (λh0=>?_) λh0=>?_
 .let⟨X,al⟩:=cK (cx d t) 0;have hh:(cx d t).head?=some X:=by rw[List.head?_eq_getElem?];exact al
  have L:X∈(cx d t).take 2:=List.mem_take_iff_getElem.2 ⟨0,V,by have:=List.getElem?_eq_some_iff.1 al;exact this.2⟩;have A0:∀{M:E},Fz [f] m3 M->af M cs.D (cs.off+Int.toNat 0*1)=some (vi X):=λR=>(eF.1 ((hc.le (fh R)).aG al)).2;refine⟨be,V,X,A0 (Fz.aA _ _),λa M=>a∈(cx d t).take 2/\Rd f H (B+1) M/\Fz [f] m3 M,⟨λI=>?_,λI=>⟨L,u.rd.mono V,Fz.aA _ _⟩⟩,?_⟩
  .simp only[aq]at I;let⟨o,i⟩:=cK (cx d t) 1;have t1:o∈(cx d t).take 2:=List.mem_take_iff_getElem.2 ⟨1,V,by have:=List.getElem?_eq_some_iff.1 i;exact this.2⟩;refine(cD u.rd V 4).mono λA m4⟨F,e,_,_,j,g⟩=>⟨N.dv g,F,e,λh=>⟨be,V,o,(eF.1 ((hc.le (fh g)).aG i)).2,t1,j,g⟩,λh=>⟨L,j,g⟩⟩
  rintro c' v ⟨aA,w,i⟩;have O:=N.fz i;refine⟨λa M=>a∈(cx d t).take 2/\((cx d t).head?=some a\/t∉cF d a)/\Rd f H (B+1) M/\Fz [f] m3 M,?_,?_⟩
  .refine(dN (e:=[]) aL ((u.to i w).hd.le ((bG _ _).trans (Al _))) Y c').mono λA m6⟨R,l,e,hf,q,x⟩=>⟨O.dv (x.fz _),R,e,?_⟩;subst q;refine(dw (hf.le (bG _ _)) t).mono λA o⟨b,e,K,g⟩=>⟨(O.fz (x.fz [])).dv (g.fz _),b,e,λar=>?_,λah=>⟨aA,Or.inr λj=>by rw[K.2 j]at ah;exact absurd ah be,(w.ext x).ext g,(i.then x).then g⟩⟩;have j:=(i.then x).then g;exact⟨be,V,X,A0 j,L,Or.inl hh,(w.ext x).ext g,j⟩
  rintro Q p ⟨I,h2,r8,Z⟩;let⟨z3,aE,zz⟩:=QS d a.gp.ds t h5 Q I h2;have c8:=u.to Z r8;have L8:=N.fz Z;have F8:Fz [f] am p:=(u3.fz _).trans Z;have z8:=Z.size;have aG:=G.size;have z2:=x2.size;intro U;have x9:J p U:=J.push _ _;have g9:GE (m.size::r) p U (.mk p.size 0 0 0) []:=Gr.new _ (ad _) _ _ _;have s9:U.size=p.size+1:=by simp[U]
  clear_value U;refine(dN (e:=[f,p.size]) bJ (c8.hd.le (x9.bP aL)) Y Q).mono λA av⟨R,l,e,hf,q,ac⟩=>⟨(L8.fz (x9.fz [])).dv (ac.fz _),R,e,?_⟩;subst q;have aD:=hf.len;refine dV (n:=(cF d Q).length) V (λj s M=>∃l,GE (m.size::r) p M s l/\l.length=j/\(∀e∈l,Ya d fs 1 e)/\Rd f H (B+1+5*j) M/\Fz [f] p M/\Fz [f,p.size] av M/\(s.D=p.size\/av.size<=s.D)) ⟨[],g9.ext BQ.mono ac,rfl,aL,(r8.ext x9).ext ac,((x9.trans ac).fz _),Fz.aA _ _,Or.inl rfl⟩ ?_;rintro j s M ax μ hj ⟨l,C,aF,T,W,o,ae,hs⟩ an
  have LM:=L8.fz o;refine dit (λh=>?_) λh=>?_
  .rcases D with⟨ak,_,_⟩|⟨ih,e1,e2⟩
   .have:=zz ak;omega
   let⟨y,z⟩:=cK (cF d Q) j;refine⟨V,V,y,(eF.1 ((hf.le (ae.dg λ_ h=>h)).aG z)).2,?_⟩;exact XP.kL (ih y (aE y (au z)) (s.D::m.size::r) f (B+1+5*j) H ao aw M (bT (λe g=>by have:=ag e g;have:=o.size;have:=G.size;omega) (ad _) C.bh.2) (by simp[aa]) (c8.to o W) V) C o L8 r8 (by simp[aa]) V λe aM M' g g' r' f' ap aI=>
    an V _ _ ⟨_,g',bJ,λe' ai=>by rcases List.mem_append.1 ai with h|h;exact T e' h;simp at h;subst h;exact g,r'.mono V,f',YU ae hs ap,oh ae.size⟩
  .have ay:∀e∈m.size::r,e<p.size:=λe g=>by have:=ag e g;omega
   exact XP.ret (nl W (C.done BQ.mono ay be V) 6 Q) LM (F8.trans o) a.rd V (λe g=>g▸Sp (Or.inl rfl) T (by rcases D with⟨h,e,_⟩|⟨_,e,_⟩;have:=zz h;omega;omega)) (by rcases D with⟨h,_,e⟩|⟨_,_,e⟩;have:=zz h;omega;omega)
 .refine(yy (b:=[f]) (by simp;exact u.rd.lt) (u.hd.le (bG _ _)) Y (pI.le (bG _ _) u.hp) (oh a.gp.oK) t).mono λA m4⟨R,l,e,gl,T,p⟩=>⟨N.dv (p.fz _),R,e,?_⟩;have ae:IR f m4 R l:=GI.done gl (by simp;exact u.rd.lt) (Qb T.2 a.gp.oK);have aQ:=ae.len;have X:=u.ext p;have Q:=N.fz (p.fz []);have u4:=u3.trans p;have z4:=p.size;have z3:=G.size;refine⟨λb M=>(b=true->0<t/\0<R.len)/\M=m4,⟨λh=>⟨λU=>by simp only[aq]at h U;omega,rfl⟩,λh=>⟨aL,rfl⟩⟩,?_⟩;rintro b _ ⟨K,rfl⟩;refine⟨λar=>?_,λah=>?_⟩
  .let⟨L,aO⟩:=K ar;refine(cD X.rd V R.len).mono λA v⟨F,e,k0,k2,w,i⟩=>⟨Q.dv i,F,e,k0,V,?_⟩;let⟨y,z⟩:=cK l F.toNat;obtain⟨fi,q,rfl,U,aT,aH⟩:=T.1 y (au z);let⟨dd,aA,ay,aE,aJ⟩:=aH L;have ak:=QQ d a.gp.ds dd aA ay _ (a.gp.dx q (au U)) aE aJ;have aU:q.params.length<=3:=(xk _ (a.gp.dx q (au U))).1;have Z:=X.to i w;have O:=Q.fz i;let⟨ps,al,e0,e1⟩:=Z.hp.aG U;have aR:=al.len;have aD:=az U;have aS:=Z.hp.len;refine⟨_,(eF.1 ((ae.le (fh i)).aG z)).2,V,V,ps,(eF.1 e0).2,?_⟩;intro m6;have x:J v m6:=J.push _ _;have g6:GE (m.size::r) v m6 (.mk v.size 0 0 0) []:=Gr.new _ (ad _) _ _ _;clear_value m6;have z5:=i.size;have ac:∀e∈m.size::r,e<v.size:=λe g=>by have:=ag e g;omega
   have aV:¬Lo t\/(Lo t/\0<t):=by by_cases h:Lo t;exact Or.inr ⟨h,L⟩;exact Or.inl h
   have hd:=RN d a.gp.ds;rcases D with⟨aG,_,_⟩|⟨ih,e2,e3⟩
   .exfalso;rcases aG with h|h|h
    .omega
    .subst h;omega
    .subst h;omega
   refine dV (n:=q.params.length -1) V (λj s M=>∃l,GE (m.size::r) v M s l/\l.length=j/\(∀e∈l,Ya d fs 1 e)/\Rd f H (B+1+5*j) M/\Fz [f] v M) ⟨[],g6,rfl,aL,w.ext x,x.fz _⟩ ?_;rintro j s M ax μ hj ⟨l',C,aF,av,W,o⟩ an
   have ew:cR ((j:Int)+1)=j+1:=aP V V;refine⟨λh=>?_,λh=>?_⟩
   .simp only[ew,aq]at h;let⟨y,z⟩:=cK q.params j;have aK:y∈q.params.dropLast:=List.mem_iff_getElem?.2 ⟨j,by rw[List.getElem?_dropLast,aj V];exact z⟩;refine⟨V,V,y,(eF.1 ((al.le (fh o)).aG z)).2,?_⟩;exact XP.kL (ih y (ak y aK) (s.D::m.size::r) f (B+1+5*j) H ao aw M (bT (λe g=>Qb (ac e g) o.size) (ad _) C.bh.2) (by simp[aa]) (Z.to o W) V) C o O w (by simp[aa]) V λe aM M' g g' r' f' ap aI=>
     an V _ _ ⟨_,g',bJ,λe' ai=>by rcases List.mem_append.1 ai with h|h;exact av e' h;simp at h;subst h;exact g,r'.mono V,f'⟩
   .simp only[ew,bD]at h;exact XP.ret (nl W (C.done BQ.mono ac be V) 10 _) (O.fz o) (((u4.fz _).trans i).trans o) a.rd V (λe g=>g▸Sp (Or.inr rfl) av V) V
  .refine(Br X.rd (by rcases D with⟨_,_,e⟩|⟨_,_,e⟩<;>omega)).mono λA v⟨F,e,w,i⟩=>⟨Q.dv i,F,e,?_⟩;exact XP.ret (P:=B+4) ((AW (m.size::r) F v).mono λA x⟨o,e,I,h2,j,h⟩=>⟨o,e,I,h2,j,w.ext h,h.fz _⟩) (Q.fz i) ((u4.fz _).trans i) a.rd V (λe g=>g▸⟨λh=>.int _,by rw[Ex.SN];rcases D with⟨_,e,_⟩|⟨_,e,_⟩<;>simp[e]⟩) (by rcases D with⟨_,_,e⟩|⟨_,_,e⟩<;>omega)
end
section
variable{a:Nat}{t:Int}
def _root_.Go.Vc.Q4{σ:Type}(o:a<=9223372036854775807)(e:1<=a){m:E}{h:σ}{g:(σ->Int->E->Prop)->(σ->Int->E->Nat)->σ->Int->E->Prop}(Q:Nat->σ->E->Prop)(l:Q 1 h m)
 (j:∀(k:Nat)(s:σ)(b:E)(I:σ->Int->E->Prop)(μ:σ->Int->E->Nat),1<=k->k<=a->Q k s b->
  (k<a->∀d c,Q (k+1) d c->I d (cR ((k:Int)+1)) c/\μ d (cR ((k:Int)+1)) c<μ s k b)->g I μ s k b):
 ∃(I:σ->Int->E->Prop)(μ:σ->Int->E->Nat),I h 1 m/\∀s i b,I s i b->g I μ s i b:=by
 refine⟨λs i c=>∃k:Nat,i=k/\1<=k/\k<=a/\Q k s c,λ_ i _=>(a -i).toNat,⟨1,rfl,ad _,e,l⟩,?_⟩
 rintro s i b ⟨k,rfl,e,n,p⟩
 refine j k s b _ _ e n p λf d c q=>?_
 rw[kW f o]
 exact⟨⟨k+1,rfl,V,f,q⟩,Gj f⟩
def _root_.Go.Vc.YT(l:a<=9223372036854775807)(d:1<=a){m:E}{f:(Int->E->Prop)->(Int->E->Nat)->Int->E->Prop}(Q:Nat->E->Prop)(g:Q 1 m)
 (h:∀(k:Nat)(b:E)(I:Int->E->Prop)(μ:Int->E->Nat),1<=k->k<=a->Q k b->
  (k<a->∀c,Q (k+1) c->I (cR ((k:Int)+1)) c/\μ (cR ((k:Int)+1)) c<μ k b)->f I μ k b):
 ∃(I:Int->E->Prop)(μ:Int->E->Nat),I 1 m/\∀i b,I i b->f I μ i b:=by
 refine⟨λi c=>∃k:Nat,i=k/\1<=k/\k<=a/\Q k c,λi _=>(a -i).toNat,⟨1,rfl,ad _,d,g⟩,?_⟩
 rintro i b ⟨k,rfl,d,j,n⟩
 refine h k b _ _ d j n λe c o=>?_
 rw[kW e l]
 exact⟨⟨k+1,rfl,V,e,o⟩,Gj e⟩
def Kg{a:List bz}{b:List dA}(hd:a∈rY)(c:Ty a t):Xv 4 20 a b t:=Jw c (Or.inr ⟨λ_ h=>Jw (h.ty hd) (Or.inl ⟨h,rfl,rfl⟩),rfl,rfl⟩)
def KB.x{f:Nat}{a:List Value}{S:List Nat}{d P:Nat}{b:O}{m:E}{Q:Ex->Prop}(h:KB f a m S Q)(k:Rd d b P m):aM cq f a m (XP S d b m P Q):=
 h.mono λv n⟨l,e,g,i,j,c⟩=>⟨l,e,g,i,j,k.ext c,c.fz _⟩
section
variable{f:List Nat}{c P:Nat}{h d p j:O}{g:List bz}{e:List dA}{b:E}{i:List Int}
def rP(hS:∀o∈f,o<b.size)(ah:c∈f)(o:GC c h P d p g e b)(hP:P+22<=10^16)(hv:IR c b j i)(ak:i.length<=1000)(ht:Ty g t):
 aM cq 316 [vp c 0,.agg #[O.v d,O.v p],O.v j,vi t] b (XP f c h b (P+22) λa=>WX g e.length i.length a/\a.n<=4):=by
 apply J4 (c,0)
 simp -zeta only[aC,aB]
 intro k y
 let⟨A,hl⟩:=dP (a:=k) (c:=y) rfl rfl
 have s1:k.size=b.size+1:=by simp[k]
 clear_value y
 have hr:=o.rd.lt
 have Y:Lw c [k.size,b.size] y:=λN hb=>⟨hl N hb,by simp at hb;omega⟩
 have ae:∀a∈k.size::f,a<y.size:=bT hS A.size (hl _ aL)
 have z2:=A.size
 refine(Hb (b:=[c]) (m:=y) bJ ((hv.le (bG _ _)).ext A) V t).mono λ_ U⟨r,ac,a,gl,ai,B⟩=>⟨Y.dv (B.fz _),r,a,?_⟩
 have aa:IR c U r ac:=GI.done gl bJ V
 have F:=(o.ext A).ext B
 have D:=Y.fz (B.fz [])
 have C:Fz [c] b U:=(A.trans B).fz _
 have al:=aa.len
 have z3:=B.size
 have kU:∀{Q:Nat}{M:E},GC c h Q d p g e M->Fz [c] b M->y.size<=M.size->Lw c [k.size,b.size] M->Q<=P+2->aM cq 335 [vp c 0,.agg #[O.v d,O.v p],vi t] M λW n=>dY [k.size,b.size] M n/\∃s u:Int,∃w:O,W=.agg #[vi s,vi u,O.v w]/\XP f c h b (P+22) (λa=>WX g e.length i.length a/\a.n<=4) (.agg #[vi s,vi u,O.v w]) (ag n k.size 0 [.i s,.i u,.s w]):=λR T h1 I hq=>
  XP.ret (Kg o.gp.ds ht (k.size::f) c _ h d p _ (λa l=>oh (ae a l)) (by simp[ah]) R V) I T o.rd V (λa l=>⟨l.1 _,l.2⟩) V
 have UG:∀{Q:Nat}{M:E},GC c h Q d p g e M->Fz [c] b M->Fz [c] U M->Lw c [k.size,b.size] M->Q<=P+2->0<r.len->aM cq 40 [vp c 0,vi (r.len:Int)] M λaj n=>dY [k.size,b.size] M n/\∃K:Int,aj=vi K/\(0:Int)<=K/\K<(r.len:Int)/\∃ad:Int,af n r.D (r.off+Int.toNat K*1)=some (vi ad)/\
  aM cq 315 [vi ad] n λW Z=>dY [k.size,b.size] n Z/\∃s u:Int,∃w:O,W=.agg #[vi s,vi u,O.v w]/\XP f c h b (P+22) (λa=>WX g e.length i.length a/\a.n<=4) (.agg #[vi s,vi u,O.v w]) (ag Z k.size 0 [.i s,.i u,.s w]):=λR T f3 I hq h0=>
  (cD R.rd V r.len).mono λ_ n⟨ab,a,k0,k1,r',H⟩=>by
   let⟨X,hy⟩:=cK ac ab.toNat;exact⟨I.dv H,ab,a,k0,V,X,(eF.1 ((aa.le (fh (f3.trans H))).aG hy)).2,XP.ret ((mw (k.size::f) X n).x r') (I.fz H) (T.trans H) o.rd V (λa l=>l▸⟨.UG (ai.1 X (au hy)),by rw[Ex.SN];simp⟩) V⟩
 refine⟨λx=>?_,λx=>kU F C z3 D V⟩
 simp only[aq]at x
 refine(cD F.rd V 6).mono λ_ m4⟨k1,a,_,_,r4,l⟩=>⟨D.dv l,k1,a,λx=>UG (F.to l r4) (C.trans l) l (D.fz l) V V,λx=>?_⟩
 intro m5
 have z:J m4 m5:=J.push _ _
 have G:=(F.to l r4).ext z
 have L:=(D.fz l).fz (z.fz [])
 exact(p7 (v:=[]) (G.hd.le (bG _ _)) o.types (pI.le (bG _ _) G.hp) (oh o.gp.oK) (mK _ _ _ _ _ _) t).mono λ_ m6⟨N,a,q⟩=>⟨L.dv (q.fz _),N,a,λx=>UG (G.ext q) ((C.trans l).then (z.trans q)) (l.then (z.trans q)) (L.fz (q.fz [])) V V,λx=>kU (G.ext q) ((C.trans l).then (z.trans q)) (by have:=l.size;have:=z.size;have:=q.size;omega) (L.fz (q.fz [])) V⟩
def JQ(Y:∀m∈f,m<b.size)(hd:cy b d g)(ht:dU g)(C:pI b p e)(hf:e.length<=1000)(X:1<=e.length)(t:Int):ln 330 [.agg #[O.v d,O.v p],vi t] b f λh=>(∀y∈h,∃(o:Nat)(q:dA),y=o/\e[o]? =some q)/\h.length<=e.length:=by
 apply Cz;simp -zeta only[aC,aB];intro a E;have L:J b a:=J.push _ _;have A:∀m∈[b.size],m<a.size:=by simp[a]
 have W:GI f a E (.mk a.size 0 0 0) []:=GI.nil f a;have x2:J a E:=J.push _ _;clear_value E;clear_value a;have ah:=C.len;refine Q4 (a:=e.length) V X (λu I M=>J a M/\∃h,GI f a M I h/\(∀y∈h,∃(o:Nat)(q:dA),y=o/\e[o]? =some q)/\h.length<=u) ⟨x2,[],W,aL,aL⟩ ?_;rintro u I M ac μ ae hk ⟨l,h,x,D,ag⟩ T
 have K:=L.trans l;refine⟨λQ=>?_,λQ=>⟨I,h,rfl,x.cv (λ_ i=>i) L.size,⟨D,V⟩,K⟩⟩;simp only[aq]at Q;let⟨q,R⟩:=cK e u;let⟨ad,z,w,U⟩:=C.aG R;have Z:=z.len;refine⟨V,V,_,K.af U,?_⟩;refine dV (n:=q.params.length) (Z▸z.iC) (λ_ _ N=>J M N) (J.aA _) ?_;rintro aa ok r I2 μ2 hj c S;have k:=K.trans c;refine⟨V,V,_,k.af w,λi=>⟨λ_=>?_,λ_=>S (by simp only[aq]at i;omega) _ _ c⟩,λi=>⟨λ_=>?_,λ_=>T V _ _ ⟨l.trans c,h,x.ext c,D,V⟩⟩⟩
 .simp only[aq]at i;let⟨y,hy⟩:=cK q.params aa;have P:=(z.ext k).aG hy;refine⟨V,V,_,k.af w,V,V,y,P,?_⟩;intro F;have j:J r F:=J.push _ _;have G:∀{s H:Nat}{ab:Value},af r s H=some ab->af F s H=af r s H:=λi=>by rw[j.af i,i]
  have B:b.size<r.size:=aO (A _ aL) (l.trans c).size;refine⟨G P,G (k.af w),aJ (j.same _ B) _,aJ (j.same _ B) _,aJ (j.same _ B) _,?_⟩;exact(p7 (v:=[]) (hd.le (k.trans j).le) ht (pI.le (k.trans j).le C) hf (mK _ _ _ _ _ _) y).aK ((l.trans c).trans j) A λs m5 x5 _=>⟨_,rfl,S V _ _ ((c.trans j).trans x5)⟩
 .intro F;refine GI.kL (x.ext c) ((l.trans c).fz []) (λm j=>L.lt (Y m j)) V λP N B s _ _=>⟨J.oQ ((l.trans c).aH _) s.ext A,T V _ _ ⟨s.ext,_,B,λH j=>?_,bJ⟩⟩;rcases List.mem_append.1 j with j|j
  .exact D H j
  .simp at j;exact⟨u,q,j,R⟩
end
end
section
variable{f c:Int}{g:O}{e:List Int}
def Cg(c:Int):Nat:=30*4^c.toNat
def uH(h:f<=c):Cg f<=Cg c:=Nat.mul_le_mul_left _ (Nat.pow_le_pow_right be V)
def QN(c:Int):30<=Cg c:=Nat.le_mul_of_pos_right _ (Nat.pow_pos be)
def RI(a:0<=f)(h:f+1<=c):4*Cg f<=Cg c:=by
 refine bX (uh ?_) (uH h);unfold Cg;rw[show(f+1).toNat=f.toNat+1 by omega,Nat.pow_succ];omega
def KA(b:List bz)(g:List dA)(c:Int):Prop:=∀(S:List Nat)(a P:Nat)(d e p h:O)(m:E)(v:List Int)(t:Int),(∀f∈S,f<m.size)->a∈S->GC a d P e p b g m->P+Cg c<=10^16->IR a m h v->v.length+3*c.toNat<=1000->Ty b t->
 aM cq 312 [vp a 0,.agg #[O.v e,O.v p],O.v h,vi t,vi c] m (XP S a d m (P+Cg c) λf=>WX b g.length v.length f/\(c<=2->f.n<=4))
def XL(S:List Nat)(b:Nat)(c:O)(m:E)(P:Nat)(Q:List Ex->Prop)(v:Value)(a:E):Prop:=∃s l,v=O.v s/\fF (bP S a) s l/\Q l/\Rd b c P a/\Fz [b] m a
def KY{S:List Nat}{M:E}(i:∀c∈S,c<M.size)(p:Nat):∀(l:List (Ex×O))(_:l.length<=1000)(_:∀x∈l,fF (bP S M) x.2 x.1.bE){a:List Ce}{n:Nat},a=l.flatMap (λx=>[.i x.1.op,.i x.1.bQ,.s x.2])->n=l.length->
 GE S M (M.push (.cells (bA a) bK)) (.mk M.size 0 n n) (l.map (·.1)):=by
 intro l q h a n j k
 refine Gr.lit (f:=l.map λx=>[.i x.1.op,.i x.1.bQ,.s x.2]) BQ.mono (ad _) i (by rw[j,List.flatMap_def]) (by simp[k]) ⟨aL,λc d=>?_,λr c o f e=>?_⟩
 .simp at d;obtain⟨_,_,_,rfl⟩:=d;rfl
 .simp only[cU,jG]at f e
  obtain⟨x,g,rfl⟩:=f
  obtain⟨y,b,rfl⟩:=e
  rw[g]at b;simp at b;subst b
  have:=h x (au g)
  cases m:x.1 with
  |mk t n s=>rw[m]at this;exact BQ.of this
section
variable{j L:List Nat}{h P:Nat}{k d p o:O}{i:List bz}{l:List dA}{m:E}{v:List Int}
def Nh(z:0<=c)(ih:∀a,0<=a->a<=c->KA i l a)(G:∀s∈j,s<m.size)(I:h∈j)(s:GC h k P d p i l m)(hP:P+3*Cg c<=10^16)(hv:IR h m o v)(ah:v.length+3*c.toNat<=1000)(ae:c<=1000)(K:IR h m g e)(h3:e.length<=3)(aa:∀u∈e,Ty i u):
 aM cq 328 [vp h 0,.agg #[O.v d,O.v p],O.v o,O.v g,vi c] m (XL j h k m (P+3*Cg c) λb=>b.length=e.length/\∀f∈b,WX i l.length v.length f):=by
 apply GG (h,0)
 simp -zeta only[aC,aB]
 intro a B
 have C:J m a:=J.push _ _
 have hr:=s.rd.lt
 have R:Lw h [m.size] a:=by intro c z;simp[a]at z⊢;omega
 have X:GE j a B (.mk a.size 0 0 0) []:=Gr.new _ (ad _) _ _ _
 have Q:J a B:=J.push _ _
 clear_value B
 clear_value a
 have D:=s.ext C
 have ag:=K.len
 refine dV (n:=e.length) V (λr w M=>∃b,GE j a M w b/\b.length=r/\(∀f∈b,WX i l.length v.length f)/\Rd h k (P+r*Cg c) M/\Fz [h] a M) ⟨[],X,rfl,aL,by simpa using D.rd.ext Q,Q.fz _⟩ ?_
 rintro r w M ac μ hk ⟨b,y,af,H,N,F⟩ ab
 have t:=(C.fz [h]).trans F
 refine dit (λq=>?_) λq=>?_
 .let⟨u,L⟩:=cK e r
  let⟨S,E⟩:=Oa (d:=(g.len:Int)) z V
  rw[aP (b:=Int.tdiv c _) V V]
  have hm:=uH E
  have Z:r*Cg c+Cg c<=3*Cg c:=by rw[<-qu];exact dh _ V
  refine⟨V,V,u,(eF.1 ((K.le (fh t)).aG L)).2,V,?_⟩
  exact XP.kL (ih _ S E (w.D::j) h _ k d p o M v u (bT G t.size y.bh.2) (by simp[I]) (s.to t N) V (hv.le (fh t)) V (aa u (au L))) y F R D.rd I V λf ai M' A W r' U _ _=>
   ab V _ _ ⟨_,W,bJ,λT Y=>by rcases List.mem_append.1 Y with q|q;exact H T q;simp at q;subst q;exact A.1,r'.mono (by rw[qu];omega),U⟩
 .have Z:r*Cg c<=3*Cg c:=dh _ V
  exact⟨w,b,rfl,y.done BQ.mono (λf A=>C.lt (G f A)) be V,⟨V,H⟩,N.mono V,t⟩
def zL{n F B:Nat}{q:E}{Q:Ex->Prop}{u bQ:Int}(T:0<=c)(ih:∀a,0<=a->a<=c->KA i l a)(R:∀r∈n::j,r<m.size)(Y:h∈j)(r:GC h k P d p i l m)(K:P+3*Cg c<=10^16)(hv:IR h m o v)(ab:v.length+3*c.toNat<=1000)(U:c<=1000)(Z:IR h m g e)(I:e.length<=3)(aa:∀t∈e,Ty i t)
 (D:Lw h L m)(W:Fz [h] q m)(G:Rd h k F q)(X:q.size<=n)(N:∀a,a.length=e.length->(∀f∈a,WX i l.length v.length f)->Q (.mk u bQ a))(M:P+3*Cg c<=B):
 aM cq 328 [vp h 0,.agg #[O.v d,O.v p],O.v o,O.v g,vi c] m λw b=>dY L m b/\∃s:O,w=O.v s/\
  aM cq 313 [vi u,vi bQ,O.v s] b λw A=>dY L b A/\∃x y:Int,∃z:O,w=.agg #[vi x,vi y,O.v z]/\XP j h k q B Q (.agg #[vi x,vi y,O.v z]) (ag A n 0 [.i x,.i y,.s z]):=
 (Nh (j:=n::j) T ih R (by simp[Y]) r K hv ab U Z I aa).mono λ_ b⟨s,a,f,H,C,J,t⟩=>⟨D.dv t,s,f,XP.ret (nl J H u bQ) (D.fz t) (W.trans t) G X (λf V=>V▸N a C.1 C.2) M⟩
def JU(I:3<=c/\c<=100)(ih:∀e,0<=e->e<=c -1->KA i l e)(hS:∀r∈j,r<m.size)(ag:h∈j)(r:GC h k P d p i l m)(hP:P+23+3*Cg (c -1)<=10^16)(hv:IR h m o v)(aU:v.length+3*c.toNat<=1000){al:Int}(ht:Ty i al):
 aM cq 329 [vp h 0,.agg #[O.v d,O.v p],O.v o,vi al,vi c] m (XP j h k m (P+23+3*Cg (c -1)) (WX i l.length v.length)):=by
 apply CK (h,0)
 simp -zeta only[aC,aB]
 intro q E m3
 let⟨T,hl⟩:=dP (a:=q) (c:=E) rfl rfl
 have s1:q.size=m.size+1:=by simp[q]
 have U:J E m3:=J.push _ _
 have hr:=r.rd.lt
 have z2:=T.size
 have aE:ar (bP [h] m3) (.mk E.size 0 4 4) [1,1,3,4]:=ar.lit aD _ bJ rfl rfl aL
 clear_value m3
 clear_value E
 have L2:Lw h [q.size,m.size] E:=λc I=>⟨hl c I,by simp at I;omega⟩
 have aw:∀e∈q.size::j,e<E.size:=bT hS T.size (hl _ aL)
 have c3:=(r.ext T).ext U
 have L3:=L2.fz (U.fz [])
 have W:=r.types
 refine(k8 c3.rd V aE aL).mono λ_ m4⟨R,e,hk,r4,G⟩=>⟨L3.dv G,R,e,?_⟩
 have X:=c3.to G r4
 have L4:=L3.fz G
 have aN:=X.hd.len
 have dl:=pL i r.gp.ds
 have af:R∈[(1:Int),3,4]:=by simp at hk⊢;omega
 have kX:0<(cx i 1).length:=(RN i r.gp.ds).1
 refine⟨λg M=>g∈[(1:Int),3,4]/\g<=i.length/\0<(cx i g).length/\J m4 M,⟨λ_=>⟨be,V,kX,J.aA _⟩,λab=>?_⟩,?_⟩
 .simp only[bD]at ab
  refine(nk (X.hd.le (bG _ _)) W R).mono λ_ m5⟨c,e,I,u⟩=>⟨L4.dv (u.fz _),c,e,λ_=>⟨be,V,kX,u⟩,λf=>⟨af,V,QR i r.gp.ds R af V λai N s=>?_,u⟩⟩
  rw[I.2 ⟨ai,by simp at af;omega,N,s⟩]at f;exact absurd f be
 rintro g m5 ⟨an,ay,aI,u⟩
 have Y:=X.ext u
 have L5:=L4.fz (u.fz [])
 have F5:Fz [h] m m5:=(((T.trans U).fz _).trans G).then u
 have k5:g∈[(0:Int),1,2,3,4]:=by simp at an⊢;omega
 have hf:=zK i r.gp.ds
 have aJ:=hf.2.1 g k5
 refine(ic (e:=[h]) (by simp;exact Y.rd.lt) (Y.hd.le (bG _ _)) W g).mono λ_ m6⟨Z,t,e,hc,ai,L⟩=>⟨L5.dv (L.fz _),Z,e,?_⟩
 subst ai
 have c6:=Y.ext L
 have L6:=L5.fz (L.fz [])
 have F6:=F5.then L
 have aK:=hc.len
 have z3:=U.size;have z4:=G.size;have z5:=u.size;have z6:=L.size
 have am:∀e∈q.size::j,e<m6.size:=λe s=>by have:=aw e s;omega
 refine XP.then (rP (f:=q.size::j) am (by simp[ag]) c6 V (hv.le (fh F6)) V ⟨by simp at an;omega,ay⟩) L6 λs0 e0 F h7 q7 r7 H=>⟨_,_,_,rfl,?_⟩
 intro m8
 have x8:J F m8:=J.push _ _
 have z7:=H.size
 have ac:∀e∈q.size::j,e<F.size:=λe s=>by have:=am e s;omega
 have g8:GE (q.size::j) F m8 (.mk F.size 0 1 1) [e0]:=KY ac 0 [(e0,s0)] aL (by simpa using h7) rfl rfl
 clear_value m8
 have L7:=L6.fz H
 have F7:=F6.trans H
 refine dV (n:=(cx i g).length) V (λA aj M=>∃t,GE (q.size::j) F M aj (e0::t)/\t.length=A/\(∀(z:Nat)(e:Ex)(C:Int),t[z]? =some e->(cx i g)[z]? =some C->WX i l.length (v.length+(cF i C).length) e)/\Rd h k (P+23+A*Cg (c -1)) M/\Fz [h] F M) ⟨[],g8,rfl,aL,by simpa using(r7.ext x8).mono V,x8.fz _⟩ ?_
 rintro A aj M aH μ hj ⟨t,aa,aT,N,K,D⟩ aG
 have w:=L7.fz D
 have aR:A*Cg (c -1)<=3*Cg (c -1):=dh _ V
 refine dit (λab=>?_) λab=>?_
 .let⟨C,hy⟩:=cK (cx i g) A
  let⟨aO,aQ⟩:=hf.1 g k5 C (au hy)
  have aV:=aa.bh
  have cM:=(c6.to H r7).to D K
  refine⟨V,V,C,(eF.1 ((hc.le (fh (H.trans D))).aG hy)).2,V,?_⟩
  refine(dN (e:=[h]) (by simp;exact K.lt) cM.hd W C).mono λ_ m9⟨f9,l9,e,h9,q9,f⟩=>⟨w.dv (f.fz _),f9,e,w.bU (Fz.aA _ _) (f.fz _) aL _,w.bU (Fz.aA _ _) (f.fz _) aL _,?_⟩
  subst q9
  refine(eM (S:=[h]) (by simp;exact(K.ext f).lt) (hv.le (fh ((F7.trans D).then f))) h9 V).mono λ_ ao⟨ak,ah,e,aq,ap,B⟩=>⟨(w.fz (f.fz [])).dv (B.fz _),ak,e,w.bU (f.fz _) (B.fz _) aL _,w.bU (f.fz _) (B.fz _) aL _,?_⟩
  have av:IR h ao ak ah:=GI.done aq (by simp;exact(K.ext f).lt) (by rw[<-ap];simp;omega)
  let⟨d0,d1⟩:=Oa (f:=c -2) (d:=(Z.len:Int)) V V
  rw[aP (b:=c -2) V V,aP (b:=Int.tdiv _ _) V V]
  have hm:=uH (f:=Int.tdiv (c -2) Z.len) (c:=c -1) V
  have aS:A*Cg (c -1)+Cg (c -1)<=3*Cg (c -1):=by rw[<-qu];exact dh _ V
  have fT:=(D.then f).then B
  have aA:ah.length=v.length+(cF i C).length:=by rw[<-ap];simp
  refine XP.kL (ih _ d0 V (aj.D::q.size::j) h _ k d p ak ao ah al (bT (λe s=>Qb (ac e s) fT.size) (ad _) (Qb f.size B.size)) (by simp[ag]) ((cM.ext f).ext B) V av V ht) ((aa.ext BQ.mono f).ext BQ.mono B) fT L7 r7 (by simp[ag]) bJ λe aW M' s g' r' f' _ _=>
   aG V _ _ ⟨t++[e],g',bJ,λz e' y' y Q=>?_,r'.mono (by rw[qu];omega),f'⟩
  rcases aZ z t.length with ae|ae
  .rw[ax ae]at y;exact N z e' y' y Q
  .rw[aF ae]at y
   have:z -t.length=0:=by have:=az y;simp at this;omega
   rw[this]at y;simp at y;subst y
   have:z=A:=V
   subst this
   rw[hy]at Q;simp at Q;subst Q
   rw[<-aA];exact s.1
 .exact XP.ret (nl K (aa.done BQ.mono ac be bJ) 8 g) w (F7.trans D) r.rd V (λe s=>s▸.mt q7.1 V V N) V
end
end
section
section
variable{e L:List Nat}{c P:Nat}{g d p i:O}{f:List bz}{h:List dA}{m:E}{v:List Int}
def JV{o:Int}(hb:3<=o/\o<=100)(ih:∀j,0<=j->j<=o -1->KA f h j)(hS:∀q∈e,q<m.size)(R:c∈e)(q:GC c g P d p f h m)(hP:P+24+3*Cg (o -1)<=10^16)(T:IR c m i v)(aF:v.length+3*o.toNat<=1000){ab:Int}(ht:Ty f ab):
 aM cq 331 [vp c 0,.agg #[O.v d,O.v p],O.v i,vi ab,vi o] m (XP e c g m (P+24+3*Cg (o -1)) (WX f h.length v.length)):=by
 apply CL (c,0)
 simp -zeta only[aC,aB]
 intro x aa
 let⟨W,N⟩:=dP (a:=x) (c:=aa) rfl rfl
 have s1:x.size=m.size+1:=by simp[x]
 clear_value aa
 have hr:=q.rd.lt
 have z2:=W.size
 have L2:Lw c [x.size,m.size] aa:=λo hb=>⟨N o hb,by simp at hb;omega⟩
 have ao:∀j∈x.size::e,j<aa.size:=bT hS W.size (N _ aL)
 have c2:=q.ext W
 have ac:=q.types
 have aE:=q.hd.len
 have dl:=pL f q.gp.ds
 have av:cR (o -2)=o -2:=aP V V
 have ak:cR (o -1)=o -1:=aP V V
 have oK:=q.gp.oK
 have ax:v.length+3*(o -2).toNat<=1000:=V
 have hm:=uH (f:=o -2) (c:=o -1) V
 have az:P+24+Cg (o -2)<=10^16:=V
 refine⟨λM=>Rd c g (P+1) M/\Fz [c] aa M,?_,?_⟩
 .refine(cD c2.rd V 4).mono λ_ m3⟨y,j,_,_,r3,X⟩=>⟨L2.dv X,y,j,λ_=>?_,λ_=>⟨r3,X⟩⟩
  refine YT (a:=f.length+1) V V (λ_ M=>Rd c g (P+1) M/\Fz [c] aa M) ⟨r3,X⟩ ?_
  rintro Y M ap μ aw ha ⟨Q,H⟩ ae
  have L:=c2.to H Q
  have LM:=L2.fz H
  refine⟨λs=>?_,λs=>⟨Q,H⟩⟩
  simp only[aq]at s
  have ea:cR ((Y:Int) -1)=Y -1:=aP V V
  rw[ea]
  refine(nk (L.hd.le (bG _ _)) ac Y).mono λ_ I⟨b4,j,an,K⟩=>⟨LM.dv (K.fz _),b4,j,λh1=>?_,λ_=>ae V _ ⟨Q.ext K,H.then K⟩⟩
  obtain⟨aj,_,hq,ay⟩:=an.1 h1
  have U:f[((Y:Int) -1).toNat]? =some aj:=by rw[<-hq];congr 1;omega
  obtain⟨_,_,g0,g1,_⟩:=L.hd.aG U
  have D:=L.ext K
  have u:=LM.fz (K.fz [])
  have l:=H.then K
  refine⟨V,V,_,K.af (eF.1 g1).2,λ_=>?_,λ_=>ae V _ ⟨Q.ext K,l⟩⟩
  refine(p7 (D.hd.le (bG _ _)) ac (pI.le (bG _ _) D.hp) V ((T.le (fh ((W.fz _).trans l))).le (bG _ _)) Y).mono λ_ t⟨b5,j,k⟩=>⟨u.dv (k.fz _),b5,j,λ_=>?_,λ_=>ae V _ ⟨(Q.ext K).ext k,l.then k⟩⟩
  have F:=D.ext k
  have w:=u.fz (k.fz [])
  have f5:=l.then k
  have z5:=f5.size
  have ah:∀j∈x.size::e,j<t.size:=λj G=>by have:=ao j G;omega
  obtain⟨_,_,af,_,_⟩:=F.hd.aG U
  refine⟨V,V,_,(eF.1 af).2,?_⟩
  refine XP.then (rP (f:=x.size::e) ah (by simp[R]) F V (T.le (fh ((W.fz _).trans f5))) V ⟨V,V⟩) w λs6 e6 B h6 q6 r6 z=>⟨_,_,_,rfl,?_⟩
  have c6:=F.to z r6
  have A:=w.fz z
  obtain⟨_,_,am,_,_⟩:=c6.hd.aG U
  refine⟨by rw[(eF.1 am).2,(eF.1 af).2],w.bU (Fz.aA _ _) z aL _,w.bU (Fz.aA _ _) z aL _,w.bU (Fz.aA _ _) z aL _,?_⟩
  rw[av]
  have F6:=(W.fz [c]).trans (f5.trans z)
  have ai:∀j∈x.size::e,j<B.size:=λj G=>by have:=ah j G;have:=z.size;omega
  refine XP.then (ih (o -2) V V (x.size::e) c (P+1+22) g d p i B v _ ai (by simp[R]) c6 V (T.le (fh F6)) ax ((zK f q.gp.ds).2.2 aj (au U))) A λs7 e7 C h7 q7 r7 r=>⟨_,_,_,rfl,?_⟩
  intro Z
  have x8:J C Z:=J.push _ _
  have al:∀j∈x.size::e,j<C.size:=λj G=>by have:=ai j G;have:=r.size;omega
  have g8:GE (x.size::e) C Z (.mk C.size 0 2 2) [e6,e7]:=KY al 0 [(e6,s6),(e7,s7)] aL (by simp;exact⟨fF.le (r.dg (by simp[R])) h6,h7⟩) rfl rfl
  clear_value Z
  exact XP.ret (nl (r7.ext x8) (g8.done BQ.mono al be aL) 11 0) ((A.fz r).fz (x8.fz [])) ((F6.trans r).then x8) q.rd V (λj G=>G▸.fe be (λs=>V) be (λs=>V) (by simp;exact⟨q6.1,q7.1⟩)) V
 rintro M ⟨Q,H⟩
 have L:=c2.to H Q
 have LM:=L2.fz H
 have zM:=H.size
 have FM:=(W.fz [c]).trans H
 refine(ic (e:=[c]) (by simp;exact Q.lt) (L.hd.le (bG _ _)) ac ab).mono λ_ m3⟨cs,al,j,hc,aj,x3⟩=>⟨LM.dv (x3.fz _),cs,j,?_⟩
 subst aj
 have Z:=L.ext x3
 have X:=LM.fz (x3.fz [])
 have K:=FM.then x3
 have z3:=x3.size
 have aA:=hc.len
 have af:∀{M:E},m3.size<=M.size->∀j∈x.size::e,j<M.size:=λs j G=>by have:=ao j G;omega
 refine⟨λs=>?_,λs=>⟨λs=>XP.ret (rP (f:=x.size::e) (af (ad _)) (by simp[R]) Z V (T.le (fh K)) V ht) X K q.rd V (λj G=>G.1) V,λs=>?_⟩⟩
 .simp only[aq]at s
  refine(cD Z.rd V cs.len).mono λ_ I⟨y,j,k0,k1,U,l⟩=>⟨X.dv l,y,j,k0,V,?_⟩
  let⟨ae,hy⟩:=cK (cx f ab) y.toNat
  have ah:=(zK f q.gp.ds).1 ab (Ty.YS q.gp.ds ht) ae (au hy)
  have D:=Z.to l U
  have u:=X.fz l
  refine⟨ae,(eF.1 ((hc.le (fh l)).aG hy)).2,?_⟩
  refine(dN (e:=[c]) (by simp;exact U.lt) D.hd ac ae).mono λ_ t⟨f5,l5,j,h5,q5,k⟩=>⟨u.dv (k.fz _),f5,j,u.bU (Fz.aA _ _) (k.fz _) aL _,u.bU (Fz.aA _ _) (k.fz _) aL _,?_⟩
  subst q5
  rw[ak]
  exact zL V ih (af (Qb l.size k.size)) R (D.ext k) V (T.le (fh ((K.trans l).then k))) V V h5 ah.1 ah.2 (u.fz (k.fz [])) ((K.trans l).then k) q.rd V (λal _ N=>.fe be (λs=>V) be (λs=>V) N) V
 .refine(cD Z.rd V 3).mono λ_ I⟨y,j,k0,k1,U,l⟩=>⟨X.dv l,y,j,λ_=>?_,λ_=>?_⟩
  .have D:=Z.to l U
   have u:=X.fz l
   have z4:=l.size;have aw:=U.lt
   intro t
   have k:J I t:=J.push _ _
   have ae:ar (bP [c] t) (.mk I.size 0 1 1) [0]:=ar.lit aD _ bJ rfl rfl aL
   clear_value t
   have z5:=k.size
   rw[ak]
   exact zL V ih (af V) R (D.ext k) V (T.le (fh ((K.trans l).then k))) V V ae aL (by simp[q.gp.ty]) (u.fz (k.fz [])) ((K.trans l).then k) q.rd V (λal _ N=>.fe be (λs=>V) be (λs=>V) N) V
  .have D:=Z.to l U
   have u:=X.fz l
   have F4:=K.trans l
   have z4:=l.size;have aw:=U.lt
   have iy:∀{ay M:E}{Y t0:Nat},GC c g (P+3) d p f h M->Fz [c] I M->ar (bP [c] M) (.mk t0 0 2 2) [0,0]->∀op:Int,op∈[(1:Int),2,3,4]->aM cq 328 [vp c 0,.agg #[O.v d,O.v p],O.v i,O.v (.mk t0 0 2 2),vi (o -1)] M λan M1=>dY [x.size,m.size] M M1/\∃ap:O,an=O.v ap/\
    aM cq 313 [vi op,vi 0,O.v ap] M1 λan M2=>dY [x.size,m.size] M1 M2/\∃r0 r1:Int,∃r2:O,an=.agg #[vi r0,vi r1,O.v r2]/\XP e c g m (P+24+3*Cg (o -1)) (WX f h.length v.length) (.agg #[vi r0,vi r1,O.v r2]) (ag M2 x.size 0 [.i r0,.i r1,.s r2]):=λL ae s op ah=>
    zL V ih (af (oh ae.size)) R L V (T.le (fh (F4.trans ae))) V V s aL (by simp[q.gp.ty]) (u.fz ae) (F4.trans ae) q.rd V (λal _ N=>.fe (by simp at ah;omega) (λs=>by simp at ah;omega) (by simp at ah;omega) (λs=>by simp at ah;omega) N) V
   rw[ak]
   refine⟨?_,?_⟩
   .intro t
    have k:J I t:=J.push _ _
    have ai:ar (bP [c] t) (.mk I.size 0 4 4) [1,2,3,4]:=ar.lit aD _ bJ rfl rfl aL
    clear_value t
    have F:=D.ext k
    have w:=u.fz (k.fz [])
    have z5:=k.size
    refine⟨u.bU (Fz.aA _ _) (k.fz _) aL _,u.bU (Fz.aA _ _) (k.fz _) aL _,?_,?_⟩
    .refine(k8 F.rd V ai aL).mono λ_ B⟨y,j,hk,r6,z⟩=>⟨w.dv z,y,j,w.bU (Fz.aA _ _) z aL _,w.bU (Fz.aA _ _) z aL _,?_⟩
     intro C
     have x7:J B C:=J.push _ _
     have am:ar (bP [c] C) (.mk B.size 0 2 2) [0,0]:=ar.lit aD _ (by simp;exact r6.lt) rfl rfl aL
     clear_value C
     have A:=w.fz z
     exact⟨A.bU (Fz.aA _ _) (x7.fz _) aL _,A.bU (Fz.aA _ _) (x7.fz _) aL _,iy (ay:=C) (Y:=0) ((F.to z r6).ext x7) (((k.fz _).trans z).then x7) am y hk⟩
    .intro B
     have z:J t B:=J.push _ _
     have am:ar (bP [c] B) (.mk t.size 0 2 2) [0,0]:=ar.lit aD _ bJ rfl rfl aL
     clear_value B
     have A:=w.fz (z.fz [])
     refine⟨w.bU (Fz.aA _ _) (z.fz _) aL _,w.bU (Fz.aA _ _) (z.fz _) aL _,?_⟩
     refine(k8 (F.ext z).rd V (ai.le (fh (z.fz _))) aL).mono λ_ C⟨y,j,hk,r7,r⟩=>⟨A.dv r,y,j,A.bU (Fz.aA _ _) r aL _,A.bU (Fz.aA _ _) r aL _,iy (ay:=C) (Y:=0) ((F.ext z).to r r7) (((k.trans z).fz _).trans r) (am.le (fh r)) y hk⟩
   .intro t
    have k:J I t:=J.push _ _
    have ai:ar (bP [c] t) (.mk I.size 0 2 2) [0,0]:=ar.lit aD _ bJ rfl rfl aL
    clear_value t
    have F:=D.ext k
    have w:=u.fz (k.fz [])
    have z5:=k.size
    refine⟨u.bU (Fz.aA _ _) (k.fz _) aL _,u.bU (Fz.aA _ _) (k.fz _) aL _,?_⟩
    intro B
    have z:J t B:=J.push _ _
    have am:ar (bP [c] B) (.mk t.size 0 4 4) [1,2,3,4]:=ar.lit aD _ bJ rfl rfl aL
    clear_value B
    have A:=w.fz (z.fz [])
    refine⟨w.bU (Fz.aA _ _) (z.fz _) aL _,w.bU (Fz.aA _ _) (z.fz _) aL _,?_⟩
    refine(k8 (F.ext z).rd V am aL).mono λ_ C⟨y,j,hk,r7,r⟩=>⟨A.dv r,y,j,A.bU (Fz.aA _ _) r aL _,A.bU (Fz.aA _ _) r aL _,iy (ay:=C) (Y:=0) ((F.ext z).to r r7) (((k.trans z).fz _).trans r) ((ai.le (fh (z.fz _))).le (fh r)) y hk⟩
end
end
section
variable{c:Int}
def XB{l:List bz}{q:List dA}(hb:0<=c/\c<=100)(ih:∀d,0<=d->d<=c -1->KA l q d):KA l q c:=by
 intro r e P G R U ae v w A hS z j hP K aI I;apply Mj (e,0);simp -zeta only[aC,aB];intro h aa;let⟨x2,hl⟩:=dP (a:=h) (c:=aa) rfl rfl;have s1:h.size=v.size+1:=by simp[h]
 clear_value aa;have hr:=j.rd.lt;have z2:=x2.size;have L2:Lw e [h.size,v.size] aa:=λc hb=>⟨hl c hb,by simp at hb;omega⟩;have H:∀{d:E},aa.size<=d.size->∀f∈h.size::r,f<d.size:=λy f he=>by have:=bT hS x2.size (hl h.size aL) f he;omega
 have c2:=j.ext x2;have am:=j.types;have oK:=j.gp.oK;have iY:=j.gp.iY;have aF:=QN c;have ap:∀{al:Nat}{d:E},GC e G al R U l q d->Fz [e] aa d->al+22<=P+Cg c->aM cq 316 [vp e 0,.agg #[O.v R,O.v U],O.v ae,vi A] d λad M2=>dY [h.size,v.size] d M2/\∃W X:Int,∃Y:O,ad=.agg #[vi W,vi X,O.v Y]/\XP r e G v (P+Cg c) (λf=>WX l q.length w.length f/\(c<=2->f.n<=4)) (.agg #[vi W,vi X,O.v Y]) (ag M2 h.size 0 [.i W,.i X,.s Y]):=λcM g hq=>
  XP.ret (rP (f:=h.size::r) (H g.size) (by simp[z]) cM V (K.le (fh ((x2.fz _).trans g))) V I) (L2.fz g) ((x2.fz _).trans g) j.rd V (λf he=>⟨he.1,λ_=>he.2⟩) hq
 refine⟨λ_=>ap c2 (Fz.aA _ _) V,λh3=>?_⟩;simp only[bD]at h3;have aG:=RI (f:=c -1) (c:=c) V V;have aH:=RI (f:=c -2) (c:=c -1) V V;have aE:=QN (c -2);have an:cR (c -1)=c -1:=aP V V;have hQ:∀f,WX l q.length w.length f->WX l q.length w.length f/\(c<=2->f.n<=4):=λf y=>⟨y,λy=>V⟩;refine(cD c2.rd V 12).mono λ_ m3⟨ab,f,k0,k1,r3,f3⟩=>⟨L2.dv f3,ab,f,?_⟩;have u:=c2.to f3 r3;have N:=L2.fz f3;have t:=(x2.fz [e]).trans f3;have z3:=f3.size;have ax:=H z3;have av:∀{d:E},J m3 d->aM cq 331 [vp e 0,.agg #[O.v R,O.v U],O.v ae,vi A,vi c] d λad M2=>dY [h.size,v.size] d M2/\∃W X:Int,∃Y:O,ad=.agg #[vi W,vi X,O.v Y]/\XP r e G v (P+Cg c) (λf=>WX l q.length w.length f/\(c<=2->f.n<=4)) (.agg #[vi W,vi X,O.v Y]) (ag M2 h.size 0 [.i W,.i X,.s Y]):=λC=>
  XP.ret (JV (e:=h.size::r) ⟨V,V⟩ ih (H (oh C.size)) (by simp[z]) (u.ext C) V (K.le (fh (t.then C))) V I) (N.fz (C.fz [])) (t.then C) j.rd V hQ V
 refine⟨λ_=>ap u f3 V,λ_=>⟨λ_=>?_,λ_=>⟨λ_=>?_,λ_=>⟨λ_=>XP.ret (JU (j:=h.size::r) ⟨V,V⟩ ih ax (by simp[z]) u V (K.le (fh t)) V I) N t j.rd V hQ V,λ_=>⟨λ_=>?_,λ_=>av (J.aA _)⟩⟩⟩⟩⟩
 .refine(LY r3 V u.hd am u.hp V (K.le (fh t))).mono λ_ k⟨B,f,hu,r4,f4⟩=>⟨N.dv f4,B,f,be,be,?_⟩;have Q:=u.to f4 r4;have p:=N.fz f4;have F4:=t.trans f4;have z4:=f4.size;have ay:Ty l B:=by have:=pL l j.gp.ds;unfold Ty;omega
  let⟨d0,d1⟩:=Oa (f:=c) (d:=2) V V;have d2:Int.tdiv c 2<=c -1:=by rw[ql V];omega
  have d3:Int.tdiv c 2+Int.tdiv c 2<=c:=by rw[ql V];omega
  rw[aP (b:=Int.tdiv c 2) V V];generalize Int.tdiv c 2=h2 at*;have hm:=uH d2;have D:∀{d M':E},Fz [e] k d->Fz [e] d M'->af M' v.size 0=af d v.size 0:=λg f'=>p.bU g f' aL _;have F:∀{d M':E},Fz [e] k d->Fz [e] d M'->af M' v.size 1=af d v.size 1:=λg f'=>p.bU g f' aL _;have ah:=λ(d:E)(cM:GC e G (P+2) R U l q d)(g:Fz [e] k d)=>ih h2 d0 d2 (h.size::r) e (P+2) G R U ae d w B (H (oh g.size)) (by simp[z]) cM V (K.le (fh (F4.trans g))) V ay;have ai:=λ(d:E)(ac:O)(cM:GC e G (P+2+Cg h2) R U l q d)(g:Fz [e] k d)(hw:IR e d ac (w++[B]))=>ih h2 d0 d2 (h.size::r) e (P+2+Cg h2) G R U ac d (w++[B]) A (H (oh g.size)) (by simp[z]) cM V hw bJ I;have aj:=λ(d:E)(ac:O)(g:Fz [e] k d)(hR:e<d.size)(y:IR e d ac [B])=>eM (S:=[e]) (by simp;exact hR) (K.le (fh (F4.trans g))) y bJ;have ak:=λ(M0 d:E)(Z e2:Ex)(t1 t2:O)(g:Fz [e] k d)(hR:Rd e G (P+2+Cg h2+Cg h2) d)(h1:fF (bP (h.size::r) d) t1 Z.bE)(aw:fF (bP (h.size::r) d) t2 e2.bE)(w1:WX l q.length w.length Z)(w2:WX l q.length (w++[B]).length e2)=>
   have C:=J.push d (.cells (bA [.i Z.op,.i Z.bQ,.s t1,.i e2.op,.i e2.bQ,.s t2]) bK)
   have ao:=H (d:=d) (oh g.size)
   XP.ret (S:=r) (Q':=λf=>WX l q.length w.length f/\(c<=2->f.n<=4)) (nl (hR.ext C) ((KY ao 0 [(Z,t1),(e2,t2)] aL (by simp;exact⟨h1,aw⟩) rfl rfl).done BQ.mono ao be aL) 13 0) ((p.fz g).fz (C.fz [])) ((F4.trans g).then C) j.rd V (λf he=>he▸hQ _ (.lt w1 (by simpa using w2))) (i:=P+Cg c) V
  refine⟨?_,?_⟩
  .refine XP.then (ah k Q (Fz.aA _ _)) p λs5 T L h5 q5 r5 m=>⟨_,_,_,rfl,D (Fz.aA _ _) m,F (Fz.aA _ _) m,?_⟩;intro m6;have s:J L m6:=J.push _ _;have aA:ar (bP [e] m6) (.mk L.size 0 1 1) [B]:=ar.lit aD _ (by simp;exact r5.lt) rfl rfl aL;clear_value m6;have o:=m.then s;refine⟨D m (s.fz _),F m (s.fz _),D m (s.fz _),F m (s.fz _),?_⟩;refine(aj m6 _ o (r5.ext s).lt aA).mono λ_ m7⟨s7,l7,f,g7,q7,i⟩=>⟨(p.fz o).dv (i.fz _),s7,f,D o (i.fz _),F o (i.fz _),?_⟩;subst q7;refine XP.then (ai m7 s7 (((Q.to m r5).ext s).ext i) (o.then i) (GI.done g7 (by simp;exact(r5.ext s).lt) bJ)) ((p.fz o).fz (i.fz [])) λs8 e8 m8 h8 q8 r8 f8=>⟨_,_,_,rfl,?_⟩;exact ak m8 m8 T e8 s5 s8 ((o.then i).trans f8) r8 (fF.le (((s.trans i).fz [e]).trans f8|>.dg (by simp[z])) h5) h8 q5.1 q8.1
  .intro L;have s:J k L:=J.push _ _;have aA:ar (bP [e] L) (.mk k.size 0 1 1) [B]:=ar.lit aD _ (by simp;exact r4.lt) rfl rfl aL;clear_value L;refine⟨D (Fz.aA _ _) (s.fz _),F (Fz.aA _ _) (s.fz _),D (Fz.aA _ _) (s.fz _),F (Fz.aA _ _) (s.fz _),?_⟩;refine XP.then (ah L (Q.ext s) (s.fz _)) (p.fz (s.fz [])) λs6 e6 m6 h6 q6 r6 o=>⟨_,_,_,rfl,D (s.fz _) o,F (s.fz _) o,?_⟩;have T:=(s.fz [e]).trans o;refine(aj m6 _ T r6.lt (aA.le (fh o))).mono λ_ m7⟨s7,l7,f,g7,q7,i⟩=>⟨(p.fz T).dv (i.fz _),s7,f,D T (i.fz _),F T (i.fz _),?_⟩;subst q7;refine XP.then (ai m7 s7 (((Q.ext s).to o r6).ext i) (T.then i) (GI.done g7 (by simp;exact r6.lt) bJ)) ((p.fz T).fz (i.fz [])) λs8 e8 m8 h8 q8 r8 f8=>⟨_,_,_,rfl,?_⟩;exact ak m8 m8 e6 e8 s6 s8 ((T.then i).trans f8) r8 (fF.le ((i.fz [e]).trans f8|>.dg (by simp[z])) h6) h8 q6.1 q8.1
 .intro k;have i:J m3 k:=J.push _ _;have s:ar (bP [e] k) (.mk m3.size 0 3 3) [0,A,A]:=ar.lit aD _ (by simp;exact r3.lt) rfl rfl aL;clear_value k;rw[an];exact zL V ih (H (oh i.size)) z (u.ext i) V (K.le (fh (t.then i))) V V s aL (by simp;exact⟨j.gp.ty be be,I⟩) (N.fz (i.fz [])) (t.then i) j.rd V (λo hl hw=>hQ _ (.fe be (λ_=>by simpa using hl) be (λy=>V) hw)) V
 .refine(JQ (f:=[e]) (by simp;exact r3.lt) (u.hd.le (bG _ _)) am (pI.le (bG _ _) u.hp) V iY A).mono λ_ k⟨B,o,f,gl,hq,i⟩=>⟨N.dv (i.fz _),B,f,λy=>?_,λ_=>av i⟩;simp only[aq]at y;have ac:IR e k B o:=GI.done gl (by simp;exact r3.lt) V;have ao:=ac.len;have Q:=u.ext i;have p:=N.fz (i.fz []);refine(cD Q.rd V B.len).mono λ_ L⟨ab,f,k0,k1,r5,m⟩=>⟨p.dv m,ab,f,k0,V,?_⟩;let⟨aj,hy⟩:=cK o ab.toNat;obtain⟨fi,ai,rfl,F⟩:=hq.1 aj (au hy);have s:=Q.to m r5;let⟨ps,ah,e0,Z⟩:=s.hp.aG F;have ak:=az F;have aw:=s.hp.len;have T:=xk _ (j.gp.dx ai (au F));have D:=(i.fz [e]).trans m;refine⟨_,(eF.1 ((ac.le (fh m)).aG hy)).2,V,V,ps,(eF.1 e0).2,?_⟩;rw[an];exact zL V ih (H (oh D.size)) z s V (K.le (fh (t.trans D))) V V ah T.1 (λA I=>j.gp.ty (T.2.1 A I).1 (T.2.1 A I).2) (p.fz m) (t.trans D) j.rd V (λo _ hw=>hQ _ (.fe be (λy=>V) be (λ_=>⟨V,V⟩) hw)) V
def Q7{b:List bz}{d:List dA}:∀(n:Nat)(c:Int),c.toNat=n->0<=c/\c<=100->KA b d c:=λn=>by
 induction n using Nat.strongRecOn with
 |ind n f=>exactλc i h=>XB h λa e g=>f a.toNat V a rfl ⟨e,V⟩
section
variable{S:List Nat}{e P:Nat}{h d p j:O}{g:List bz}{i:List dA}{f:E}{v:List Int}
def Yt(g:List bz)(b a:Nat)(e:Ex):Prop:=WX g b a e/\e.n<=30
def Mh(hS:∀y∈S,y<f.size)(ab:e∈S)(y:GC e h P d p g i f)(hP:P+20*Cg 18<=10^16)(hv:IR e f j v)(ak:v.length<=100){T:Int}(ht:Ty g T)(s:0<=c/\c<=18):
 aM cq 285 [vp e 0,.agg #[O.v d,O.v p],O.v j,vi T,vi c] f (XP S e h f (P+20*Cg 18) (Yt g i.length v.length)):=by
 apply EG (e,0)
 simp -zeta only[aC,aB]
 intro t B
 let⟨w,hl⟩:=dP (a:=t) (c:=B) rfl rfl
 have s1:t.size=f.size+1:=by simp[t]
 clear_value B
 have hr:=y.rd.lt
 have z2:=w.size
 have N:Lw e [t.size,f.size] B:=λc s=>⟨hl c s,by simp at s;omega⟩
 have aa:∀{M:E},B.size<=M.size->∀k∈t.size::S,k<M.size:=λR k Z=>by have:=bT hS w.size (hl t.size aL) k Z;omega
 have W:=y.ext w
 have hm:=uH s.2
 refine XP.then (Q7 _ c rfl ⟨s.1,V⟩ (t.size::S) e P h d p j B v T (aa (ad _)) (by simp[ab]) W V (hv.le (fh (w.fz _))) V ht) N λs3 F l h3 q3 r3 f3=>⟨_,_,_,rfl,?_⟩
 intro m4 C
 have U:J l C:=(J.push l _).ag (ad _) _ _
 have B5:cw C l.size bK [.i F.op,.i F.bQ,.s s3]:=cw.ag (m:=m4) (o:=0) (r:=[.i F.op,.i F.bQ,.s s3]) (cw.push l _ _)
 have s5:C.size=l.size+1:=by simp[C,m4,aw]
 clear_value C
 have z3:=f3.size
 have ae:∀k∈l.size::t.size::S,k<C.size:=bT (aa z3) U.size V
 refine⟨λq M=>∃(I:O)(k:Ex)(u:Nat),0<=q/\q<=18/\q.toNat<=u/\u<=18/\cw M l.size bK [.i k.op,.i k.bQ,.s I]/\fF (bP (l.size::t.size::S) M) I k.bE/\WX g i.length v.length k/\(q<=2->k.n<=4)/\Rd e h (P+(19 -u)*Cg 18) M/\Fz [e] B M/\C.size<=M.size,λq _=>q.toNat,⟨s3,F,18,s.1,s.2,V,ad _,B5,fF.le (U.bP λc s=>(List.mem_cons.1 s).elim (λR=>Or.inr V) Or.inl) h3,q3.1,q3.2,(r3.ext U).mono V,(f3.then U),ad _⟩,?_⟩
 rintro q M ⟨I,k,u,b0,b1,bk,al,K,hs,hw,hn,rM,X,zM⟩
 have FM:=(w.fz [e]).trans X
 refine⟨_,K.bU 0,_,K.bU 1,_,K.bU 2,?_⟩
 refine(Bh (fF.le (bG _ _) hs)).mono λ_ H⟨n6,e6,q6,D⟩=>⟨(N.fz X).dv (D.fz _),n6,e6,?_⟩
 have L:=K.ext D
 have r6:=rM.ext D
 have z:=X.then D
 have z6:=D.size
 have kc:(19 -u)*Cg 18+Cg 18<=20*Cg 18:=by rw[<-qu];exact dh _ V
 have aW:k.n<=30->∃v0:Int,af H l.size 0=some (vi v0)/\∃v1:Int,af H l.size 1=some (vi v1)/\∃v2:O,af H l.size 2=some (O.v v2)/\XP S e h f (P+20*Cg 18) (Yt g i.length v.length) (.agg #[vi v0,vi v1,O.v v2]) (ag H t.size 0 [.i v0,.i v1,.s v2]):=λac=>
  ⟨_,L.bU 0,_,L.bU 1,_,L.bU 2,I,k,rfl,fF.le (cB aL λy Y=>ai _ (ai _ Y)) (fF.le (D.dg _) hs),⟨hw,ac⟩,y.rd.ag (r6.mono V) ((w.fz _).trans z) V 0 _,((w.fz _).trans z).ag (Or.inr V) _ _⟩
 refine⟨λR=>⟨λA=>?_,λA=>aW (by simp only[bD]at A;have:=hn V;omega)⟩,λR=>aW (by simp only[bD]at R;omega)⟩
 simp only[aq]at A
 let⟨d0,d1⟩:=Oa (f:=q) (d:=2) b0 V
 have d2:Int.tdiv q 2<=q -1:=by rw[ql b0];omega
 rw[aP (b:=Int.tdiv q 2) V V]
 generalize Int.tdiv q 2=A at*
 have ah:=uH (f:=A) (c:=18) V
 refine⟨be,?_⟩
 refine XP.then (Q7 _ A rfl ⟨d0,V⟩ (l.size::t.size::S) e _ h d p j H v T (λk Z=>oh (ae k Z)) (by simp[ab]) (W.to z r6) V (hv.le (fh ((w.fz _).trans z))) V ht) (N.fz z) λs7 G m7 h7 q7 r7 Q=>⟨_,_,_,rfl,?_⟩
 have aj:e≠l.size:=V
 have B7:cw m7 l.size bK [.i k.op,.i k.bQ,.s I]:=L.congr (Q.same _ V bJ)
 refine⟨B7.eC aL,?_⟩
 intro m8
 have B8:cw m8 l.size bK [.i G.op,.i G.bQ,.s s7]:=cw.ag (m:=m7) (o:=0) (r:=[.i G.op,.i G.bQ,.s s7]) B7
 have f8:Fz [e] B m8:=(z.trans Q).ag (Or.inr V) _ _
 have s8:m8.size=m7.size:=aw _ _ _ _
 have z7:=Q.size
 refine⟨λc s=>bo _ _ _ _ (oh ((N c s).1)),⟨s7,G,u -1,d0,V,V,V,B8,fF.le (cB aL λy Y=>Y) h7,q7.1,q7.2,?_,f8,V⟩,by show A.toNat<q.toNat;omega⟩
 refine W.rd.ag (r7.mono ?_) (z.trans Q) V 0 _
 rw[show 19 -(u -1)=19 -u+1 by omega,qu];omega
end
end
section
structure HX(S:List Nat)(ds:List bz)(nf a:Nat)(M:E)(s:O)(e:Ex):Prop where
 sl:fF (bP S M) s e.bE
 wx:WX ds nf a e
structure Rs(rb:Nat)(bs:O)(m:E)(Q:Nat)(M:E):Prop where
 f:Fz [rb] m M
 r:Rd rb bs Q M
section
variable{S L:List Nat}{f Q q u k a i:Nat}{j d p s w:O}{h:List bz}{t:List dA}{n M c:E}{g:Ex}{v:List Int}{K:Int->Int->O->E->Prop}
def HX.fz(b:HX S h i a M s g)(e:f∈S)(d:Fz [f] M c):HX S h i a c s g:=⟨fF.le (d.dg (by simp[e])) b.sl,b.wx⟩
def HX.ext(b:HX S h i a M s g)(x:J M c):HX S h i a c s g:=⟨fF.le (x.dg _) b.sl,b.wx⟩
def HX.jT(b:HX S h i a M s g)(x:J M c)(f:M.size<=k):HX (k::S) h i a c s g:=⟨fF.le (x.bP λe d=>(List.mem_cons.1 d).elim (λb=>Or.inr V) Or.inl) b.sl,b.wx⟩
def HX.fw(b:HX (k::S) h i a M s g):HX S h i a M s g:=⟨fF.le (jS M λ_=>ai _) b.sl,b.wx⟩
def HX.put(b:HX S h i a M s g)(c:k∈S)(o:Nat)(l:List Ce):HX S h i a (ag M k o l) s g:=⟨fF.le (cB c λ_ b=>b) b.sl,b.wx⟩
def Rs.ext(h:Rs f j n Q M)(x:J M c):Rs f j n Q c:=⟨h.f.then x,h.r.ext x⟩
def Rs.to(h:Rs f j n Q M)(a:Fz [f] M c)(r:Rd f j q c):Rs f j n q c:=⟨h.f.trans a,r⟩
def Rs.put(h:Rs f j n Q M)(b:Rd f j u n)(a:n.size<=k)(o:Nat)(l:List Ce):Rs f j n Q (ag M k o l):=⟨h.f.ag (Or.inr a) _ _,b.ag h.r h.f a o l⟩
def lw(h:f<n.size)(a:∀b∈L,n.size<=b/\b<M.size):Lw f L M:=λb c=>⟨(a b c).2,oh ((a b c).1)⟩
def kg(a:Fz [f] M c)(h:f<n.size)(b:n.size<=k/\k<M.size)(o:Nat):af c k o=af M k o:=aJ (a.same k b.2 bJ) o
def kJ{d c:E}{z a:List Ce}{t:Nat}(f:d=M.push (.cells (bA z) t))(g:c=ag d M.size 0 a)(i:a.length=z.length):J M c/\cw c M.size t a/\c.size=M.size+1:=by
 subst f g;refine⟨(J.push M _).ag (ad _) _ _,?_,by rw[aw];simp⟩;have h:=cw.ag (m:=M.push (.cells (bA z) t)) (b:=M.size) (e:=t) (l:=z) (o:=0) (r:=a) (cw.push _ _ _);rwa[show js z 0 a=a from by
  have h:=Cd [] a z V;rw[I9 V]at h;simpa using h]at h
def XP.kk{e:Nat}{b:List Value}{T:Ex->Prop}(n:aM cq e b M (XP S f j M Q T))(o:Lw f L M)(p:∀s g c,fF (bP S c) s g.bE->T g->Rd f j Q c->Fz [f] M c->K g.op g.bQ s c):aM cq e b M λv c=>dY L M c/\∃h i:Int,∃k:O,v=.agg #[vi h,vi i,O.v k]/\K h i k c:=
 XP.then n o λs g c a l m d=>⟨_,_,_,rfl,p s g c a l m d⟩
def xf(S:List Nat)(h:List bz)(i:Nat)(m:Lw f L M){n:Int}(p:0<=n/\n<(a:Int))(o:∀s c,HX S h i a c s (.mk 12 n [])->J M c->K 12 n s c):aM cq 315 [vi n] M λv c=>dY L M c/\∃b d:Int,∃e:O,v=.agg #[vi b,vi d,O.v e]/\K b d e c:=
 (mw S n M).mono λv c⟨s,g,j,k,l,x⟩=>⟨m.dv (x.fz _),by subst l;exact⟨_,_,_,j,o s c ⟨k,.UG p⟩ x⟩⟩
def Jj(S:List Nat)(h:List bz)(i a:Nat)(m:Lw f L M)(n:Int)(o:∀s c,HX S h i a c s (.mk 0 n [])->J M c->K 0 n s c):aM cq 280 [vi n] M λv c=>dY L M c/\∃b d:Int,∃e:O,v=.agg #[vi b,vi d,O.v e]/\K b d e c:=
 (AW S n M).mono λv c⟨s,g,j,k,l,x⟩=>⟨m.dv (x.fz _),by subst l;exact⟨_,_,_,j,o s c ⟨k,.int n⟩ x⟩⟩
def pb(l:List (Ex×O))(d:l.length<=1000)(b:∀c∈S,c<M.size)(h:∀x∈l,fF (bP S M) x.2 x.1.bE){a:List Ce}{n:Nat}(c:a=l.flatMap λx=>[.i x.1.op,.i x.1.bQ,.s x.2])(e:n=l.length):fF (bP S (M.push (.cells (bA a) bK))) (.mk M.size 0 n n) (l.map (·.1)):=
 (KY b 0 l d h c e).done BQ.mono b be bJ
def jC{bE:List Ex}(k:fF (bP S M) s bE){b bQ:Int}(q:WX h i a (.mk b bQ bE))(o:Lw f L M)(p:∀s c,HX S h i a c s (.mk b bQ bE)->J M c->K b bQ s c):
 aM cq 313 [vi b,vi bQ,O.v s] M λv c=>dY L M c/\∃d e:Int,∃j:O,v=.agg #[vi d,vi e,O.v j]/\K d e j c:=
 (Jx k b bQ).mono λv c⟨s,g,l,m,n,x⟩=>⟨o.dv (x.fz _),by subst n;exact⟨_,_,_,l,p s c ⟨m,q⟩ x⟩⟩
def FR(x:∀a∈S,a<M.size)(z:f∈S)(a:GC f j Q d p h t M)(C:Q+Cg 18<=10^16)(B:IR f M w v)(E:v.length<=100){e b:Int}(A:Ty h e)(i:0<=b/\b<=18)(u:Lw f L M)(y:∀g s c,HX S h t.length v.length c s g->Rd f j (Q+Cg 18) c->Fz [f] M c->K g.op g.bQ s c):
 aM cq 312 [vp f 0,.agg #[O.v d,O.v p],O.v w,vi e,vi b] M λv c=>dY L M c/\∃k l:Int,∃m:O,v=.agg #[vi k,vi l,O.v m]/\K k l m c:=
 have D:=uH i.2
 XP.kk (Q7 _ b rfl ⟨i.1,V⟩ S f Q j d p w M v e x z a V B V A) u λs g c n o q r=>y g s c ⟨n,o.1⟩ (q.mono V) r
end
end
section
def WX.Pn{b:List bz}{c a:Nat}{n:Int}{bE:List Ex}(h:∀e∈bE,WX b c a e):WX b c a (.mk 6 n bE):=.fe be (λh=>V) be (λh=>V) h
section
variable{c:List Nat}{e P:Nat}{g d p:O}{f:List bz}{h:List dA}{b:E}
def Ml(f:List bz)(z:Nat)(hS:∀Z∈c,Z<b.size)(aa:e∈c)(U:Rd e g P b)(hP:P+100<=10^16)(aF:Int):aM cq 314 [vp e 0,vi aF] b (XP c e g b (P+100) (WX f z 0)):=by
 apply EQ (e,0);simp -zeta only[aC,aB];intro aA ac;have x2:J b ac:=(J.push b _).trans (J.push aA _);have s2:ac.size=b.size+2:=by simp[ac,aA]
 clear_value ac;have L:=U.lt;have ap:∀{h:E},ac.size<=h.size->∀Z∈b.size::c,Z<h.size:=λv=>bT hS V V;have X:Rs e g b P ac:=⟨x2.fz _,U.ext x2⟩;refine jC (S:=b.size::c) (a:=0) (h:=f) (i:=z) (f:=e) (bE:=[]) (mK _ _ _ _ _ _) (.Pn aL) (lw L bJ) λs3 m3 h3 x3=>?_;intro m4 D;let⟨x5,B5,z5⟩:=kJ (M:=m3) (d:=m4) (c:=D) rfl rfl rfl;clear_value D;have z3:=x3.size;have r5:=(X.ext x3).ext x5;refine⟨λ_=>?_,λ_=>?_⟩
 .intro m6;have x6:J D m6:=J.push _ _;clear_value m6;have z6:=x6.size;refine jC (S:=b.size::c) (a:=0) (h:=f) (i:=z) (f:=e) (bE:=[]) (mK _ _ _ _ _ _) (.Pn aL) (lw L bJ) λQ F h7 x7=>?_;intro m8 y;let⟨x9,B9,z9⟩:=kJ (M:=F) (d:=m8) (c:=y) rfl rfl rfl;clear_value y;have z7:=x7.size;have r9:=((r5.ext x6).ext x7).ext x9;have h9:=h7.ext x9;have G:∀{h C:E},y.size<=h.size->Fz [e] h C->∀i,af C F.size i=af h F.size i:=λv ai i=>kg ai L ⟨V,V⟩ i;have LW:∀{h:E},y.size<=h.size->Lw e [F.size,m3.size,b.size] h:=λv=>lw L bJ;have LK:∀{h:E}{s:Nat},y.size<=s->s<h.size->Lw e [s,F.size,m3.size,b.size] h:=λv T=>lw L bJ;have hw:∀n:Int,WX f z 0 (.mk 6 3 [.mk 6 2 [],.mk 0 n [],.mk 6 2 []]):=λn=>.Pn (by simp;exact⟨.Pn aL,.int n,.Pn aL⟩);refine⟨λkX h=>∃H l,kX.2=0/\b.size<=kX.1/\cw h kX.1 bK [.i l.op,.i l.bQ,.s H]/\HX (b.size::c) f z 0 h H l/\HX (b.size::c) f z 0 h Q (.mk 6 2 [])/\Rs e g b (P+1) h/\y.size<=h.size,?_,?_⟩
  .have iy:∀{s t0:Nat}{h:E}{n:Int},cw h s bK [.i 0,.i 0,.s .nil]->y.size<=s->fF (bP (s::b.size::c) h) (.mk t0 0 3 3) [.mk 6 2 [],.mk 0 n [],.mk 6 2 []]->Rs e g b (P+1) h->HX (s::b.size::c) f z 0 h Q (.mk 6 2 [])->
    aM cq 313 [vi 6,vi 3,O.v (.mk t0 0 3 3)] h λaG C=>dY [s,F.size,m3.size,b.size] h C/\∃r0 r1:Int,∃X:O,aG=.agg #[vi r0,vi r1,O.v X]/\∃H l,((s,0):Nat×Nat).2=0/\b.size<=((s,0):Nat×Nat).1/\cw (ag C s 0 [.i r0,.i r1,.s X]) ((s,0):Nat×Nat).1 bK [.i l.op,.i l.bQ,.s H]/\HX (b.size::c) f z 0 (ag C s 0 [.i r0,.i r1,.s X]) H l/\HX (b.size::c) f z 0 (ag C s 0 [.i r0,.i r1,.s X]) Q (.mk 6 2 [])/\Rs e g b (P+1) (ag C s 0 [.i r0,.i r1,.s X])/\y.size<=(ag C s 0 [.i r0,.i r1,.s X]).size:=λB hk W N v=>
    jC W (hw _) (LK hk B.lt) λs' C T au=>⟨s',.mk 6 3 [.mk 6 2 [],.mk 0 _ [],.mk 6 2 []],rfl,by show b.size<=_;omega,cw.ag (m:=C) (o:=0) (r:=[.i 6,.i 3,.s s']) (B.ext au),(T.put aL _ _).fw,((v.ext au).put aL _ _).fw,(N.ext au).put U V _ _,by rw[aw];have:=B.lt;have:=au.size;omega⟩
   have zb:∀h:E,J h (h.push (.cells (bA [.i 0,.i 0,.s .nil]) bK))/\cw (h.push (.cells (bA [.i 0,.i 0,.s .nil]) bK)) h.size bK [.i 0,.i 0,.s .nil]:=λh=>⟨J.push _ _,cw.push _ _ _⟩;have ar:∀{ah:List Nat}{h:E}{n:Int}{si:O},(∀Z∈ah,Z<h.size)->HX ah f z 0 h Q (.mk 6 2 [])->HX ah f z 0 h si (.mk 0 n [])->fF (bP ah (h.push (.cells (bA [.i 6,.i 2,.s Q,.i 0,.i n,.s si,.i 6,.i 2,.s Q]) bK))) (.mk h.size 0 3 3) [.mk 6 2 [],.mk 0 n [],.mk 6 2 []]:=λhS v T=>
    pb [(.mk 6 2 [],Q),(.mk 0 _ [],_),(.mk 6 2 [],Q)] aL hS (by simp;exact⟨v.sl,T.sl,v.sl⟩) rfl rfl
   have ay:∀{h:E}{s:Nat},y.size<=s->s<h.size->∀Z∈s::b.size::c,Z<h.size:=λv T=>bT (ap (h:=y) V) V T;refine⟨(cD r9.r V 9).mono λ_ w⟨n,l,_,_,an,u⟩=>⟨(LW (ad _)).dv u,n,l,G (ad _) u _,G (ad _) u _,G (ad _) u _,G (ad _) u _,G (ad _) u _,G (ad _) u _,?_,?_⟩,?_⟩
   .have I:=r9.to u an;have vQ:=u.size;have K:=h9.fz (by simp[aa]) u;refine Jj (b.size::c) f z 0 (LW vQ) n λaD p aj q=>?_;have av:=q.size;have d:=λi=>G vQ (q.fz _) i;refine⟨d _,d _,d _,d _,d _,d _,?_,?_⟩
    .intro k;have j:J p k:=J.push _ _;have W:fF (bP (b.size::c) k) (.mk p.size 0 3 3) [.mk 6 2 [],.mk 0 n [],.mk 6 2 []]:=ar (ah:=b.size::c) (ap V) (K.ext q) aj;have aH:=j.size;refine⟨?_,?_⟩
     .refine jC (M:=k) (f:=e) W (hw n) (LW V) λaz A ao t=>?_;intro R;have ak:J A R:=J.push _ _;have al:=t.size;have d:=λi=>G (h:=A) (C:=R) V (ak.fz _) i;refine⟨d _,d _,d _,d _,d _,d _,?_⟩;intro ae;let⟨Y,ab,am⟩:=kJ (M:=A) (d:=R) (c:=ae) rfl rfl rfl;exact⟨az,.mk 6 3 [.mk 6 2 [],.mk 0 n [],.mk 6 2 []],rfl,by show b.size<=A.size;omega,ab,ao.ext Y,(((K.ext q).ext j).ext t).ext Y,(((I.ext q).ext j).ext t).ext Y,V⟩
     .intro A;obtain⟨t,R⟩:J k A/\cw A k.size bK [.i 0,.i 0,.s .nil]:=zb k;have d:=λi=>G (h:=k) (C:=A) V (t.fz _) i;exact⟨d _,d _,d _,d _,d _,d _,iy R V (fF.le (t.bP λam hb=>(List.mem_cons.1 hb).elim (λv=>Or.inr V) Or.inl) W) (((I.ext q).ext j).ext t) (((K.ext q).ext j).jT t (ad _))⟩
    .intro k;obtain⟨j,ae⟩:J p k/\cw k p.size bK [.i 0,.i 0,.s .nil]:=zb p;have d:=λi=>G (h:=p) (C:=k) V (j.fz _) i;refine⟨d _,d _,d _,d _,d _,d _,?_⟩;intro A;have t:J k A:=J.push _ _;have R:=(K.ext q).jT j (ad _);exact iy (ae.ext t) V (ar (ay V ae.lt) R (aj.jT j (ad _))) (((I.ext q).ext j).ext t) (R.ext t)
   .have I:=r9.to u an;have vQ:=u.size;have K:=h9.fz (by simp[aa]) u;intro p;obtain⟨q,Y⟩:J w p/\cw p w.size bK [.i 0,.i 0,.s .nil]:=zb w;have d:=λi=>G (h:=w) (C:=p) V (q.fz _) i;have av:=q.size;refine⟨d _,d _,d _,d _,d _,d _,?_⟩;refine Jj (w.size::b.size::c) f z 0 (LK V Y.lt) n λal k ak j=>?_;have d:=λi=>G (h:=p) (C:=k) V (j.fz _) i;refine⟨d _,d _,d _,d _,d _,d _,?_⟩;intro A;have t:J k A:=J.push _ _;have R:=(K.jT q (ad _)).ext j;exact iy ((Y.ext j).ext t) V (ar (ay V (Y.ext j).lt) R ak) (((I.ext q).ext j).ext t) (R.ext t)
   .intro w;obtain⟨I,ax⟩:J y w/\cw w y.size bK [.i 0,.i 0,.s .nil]:=zb y;have d:=λi=>G (h:=y) (C:=w) V (I.fz _) i;have vQ:=I.size;refine⟨d _,d _,d _,d _,d _,d _,?_⟩;refine(cD (r9.ext I).r V 9).mono λ_ p⟨n,l,_,_,aE,ab⟩=>⟨(LK (ad _) ax.lt).dv ab,n,l,?_⟩;have d:=λi=>G (h:=w) (C:=p) V ab i;refine⟨d _,d _,d _,d _,d _,d _,?_⟩;have Y:=ax.congr (ab.same y.size ax.lt bJ);have av:=ab.size;refine Jj (y.size::b.size::c) f z 0 (LK (ad _) Y.lt) n λal k ak j=>?_;have d:=λi=>G (h:=p) (C:=k) V (j.fz _) i;refine⟨d _,d _,d _,d _,d _,d _,?_⟩;intro A;have t:J k A:=J.push _ _;have R:=((h9.jT I (ad _)).fz (by simp[aa]) ab).ext j;exact iy ((Y.ext j).ext t) (ad _) (ar (ay (ad _) (Y.ext j).lt) R ak) ((((r9.ext I).to ab aE).ext j).ext t) (R.ext t)
  .rintro⟨s,i⟩ h ⟨H,l,ho,hk,B,v,T,N,Y⟩;simp only at ho hk B;subst ho;have bl:=B.lt;refine⟨_,B.bU 0,_,B.bU 1,_,B.bU 2,?_⟩;have L3:∀{C:E},h.size<=C.size->Lw e [F.size,m3.size,b.size] C:=λv=>LW V;refine(cD N.r V 9).mono λ_ w⟨n,en,_,_,an,u⟩=>⟨(L3 (ad _)).dv u,n,en,?_⟩;have vQ:=u.size;have gg:∀{R ab:E},h.size<=R.size->Fz [e] R ab->∀i,af ab s i=af R s i:=λv ai i=>kg ai L ⟨hk,V⟩ i;have ga:=λi=>G (h:=h) (C:=w) Y u i;have gb:=λi=>gg (R:=h) (ab:=w) (ad _) u i;refine⟨?_,?_,?_,?_,?_,?_,?_⟩;iterate 6 first|exact ga _|exact gb _
   refine Jj (b.size::c) f z 0 (L3 vQ) n λaD p aj q=>?_;have ga:=λi=>G (h:=w) (C:=p) V (q.fz _) i;have gb:=λi=>gg (R:=w) (ab:=p) vQ (q.fz _) i;refine⟨?_,?_,?_,?_,?_,?_,?_⟩;iterate 6 first|exact ga _|exact gb _
   intro k;have j:J p k:=J.push _ _;have av:=q.size;have ah:=(v.fz (by simp[aa]) u).ext q;have am:=(T.fz (by simp[aa]) u).ext q;have W:fF (bP (b.size::c) k) (.mk p.size 0 3 3) [l,.mk 0 n [],.mk 6 2 []]:=pb (S:=b.size::c) (M:=p) [(l,H),(.mk 0 n [],aD),(.mk 6 2 [],Q)] aL (ap V) (by simp;exact⟨ah.sl,aj.sl,am.sl⟩) rfl rfl;refine jC (M:=k) (f:=e) W (.Pn (by simp;exact⟨ah.wx,aj.wx,am.wx⟩)) (L3 (C:=k) (oh j.size)) λaz A ao t=>?_;have ar:=(((N.to u an).ext q).ext j).ext t;exact⟨az,_,rfl,(ao.put aL _ _).fw.sl,ao.wx,((ar.put U (ad _) _ _).r).mono V,(ar.put U (ad _) _ _).f⟩
 .intro m6 F;let⟨x7,B7,z7⟩:=kJ (M:=D) (d:=m6) (c:=F) rfl rfl rfl;clear_value F;have r7:=r5.ext x7;have C:∀{h:E},F.size<=h.size->Lw e [m3.size,b.size] h:=λv=>lw L bJ;refine(cD r7.r V 3).mono λ_ m8⟨n,en,n0,n3,Q,u⟩=>⟨(lw L bJ:Lw e [D.size,m3.size,b.size] F).dv u,n,en,?_⟩;rw[aP (b:=1+n) V V];have z8:=u.size;have T:b.size<=D.size:=V;refine⟨λs h=>0<=s/\s<=3/\∃H l,cw h D.size bK [.i l.op,.i l.bQ,.s H]/\HX (D.size::b.size::c) f z 0 h H l/\Rs e g b (P+1+4*(3 -s).toNat) h/\F.size<=h.size,λs _=>s.toNat,⟨V,V,s3,.mk 6 0 [],B7.congr (u.same _ V bJ),((h3.ext x5).jT x7 (ad _)).fz (by simp[aa]) u,⟨(r7.to u Q).f,Q.mono V⟩,z8⟩,?_⟩;rintro s h ⟨i0,i3,H,l,B,v,N,Y⟩;refine⟨λhi=>?_,λ_=>⟨_,B.bU 0,_,B.bU 1,_,B.bU 2,H,l,rfl,(v.fw.put aL _ _).fw.sl,v.wx,(N.put U (ad _) _ _).r.mono V,(N.put U (ad _) _ _).f⟩⟩;simp only[aq]at hi;refine⟨_,B.bU 0,_,B.bU 1,_,B.bU 2,?_⟩;have d:∀{R ab:E},F.size<=R.size->Fz [e] R ab->∀i,af ab D.size i=af R D.size i:=λv ai i=>kg ai L ⟨T,V⟩ i;refine(Br N.r V).mono λ_ y⟨A,en,d9,t⟩=>⟨(C Y).dv t,A,en,d Y t _,d Y t _,d Y t _,?_⟩;have z9:=t.size;refine Jj (D.size::b.size::c) f z 0 (C V) A λan w K I=>⟨d V (I.fz _) _,d V (I.fz _) _,d V (I.fz _) _,?_⟩;intro p;have q:J w p:=J.push _ _;have vQ:=I.size;have av:=q.size;have ah:=(v.fz (by simp[aa]) t).ext I;have W:fF (bP (D.size::b.size::c) p) (.mk w.size 0 2 2) [.mk 0 A [],l]:=pb (S:=D.size::b.size::c) (M:=w) [(.mk 0 A [],an),(l,H)] aL (bT (ap (h:=w) V) (ad _) V) (by simp;exact⟨K.sl,ah.sl⟩) rfl rfl;refine jC (M:=p) (f:=e) W (.Pn (by simp;exact⟨K.wx,ah.wx⟩)) (C (h:=p) V) λal k ak j=>?_;have ae:cw k D.size bK [.i l.op,.i l.bQ,.s H]:=(((B.congr (t.same _ B.lt bJ)).ext I).ext q).ext j;have aH:=j.size;rw[aP (b:=s -1) V V];refine⟨ae.eC aL,λam hb=>bo _ _ _ _ (by simp at hb;omega),⟨V,V,al,.mk 6 1 [.mk 0 A [],l],cw.ag (m:=k) (o:=0) (r:=[.i 6,.i 1,.s al]) ae,ak.put aL _ _,?_,by rw[aw];omega⟩,by show(s -1).toNat<s.toNat;omega⟩;have aj:=((((N.to t d9).ext I).ext q).ext j).put U T 0 [.i 6,.i 1,.s al];exact⟨aj.f,aj.r.mono V⟩
end
end
section
structure BX(S:List Nat)(ds:List bz)(nf a k:Nat)(M:E)(s:O)(e:Ex):Prop where
 b:cw M k bK [.i e.op,.i e.bQ,.s s]
 h:HX (k::S) ds nf a M s e
section
variable{S:List Nat}{d Q i j k a c:Nat}{h s:O}{b:List bz}{g M f:E}{e:Ex}
def BX.new{f d:E}(h:HX S b c a M s e)(g:f=M.push (.cells (bA [.i 0,.i 0,.s .nil]) bK))(i:d=ag f M.size 0 [.i e.op,.i e.bQ,.s s]):J M d/\BX S b c a M.size d s e/\d.size=M.size+1:=
 let⟨x,B,z⟩:=kJ g i rfl;⟨x,⟨B,h.jT x (ad _)⟩,z⟩
def BX.fz(h:BX S b c a k M s e)(j:d∈S)(i:k≠d)(g:Fz [d] M f):BX S b c a k f s e:=⟨h.b.congr (g.same k h.b.lt (by simpa using i)),h.h.fz (by simp[j]) g⟩
def BX.ext(h:BX S b c a k M s e)(x:J M f):BX S b c a k f s e:=⟨h.b.ext x,h.h.ext x⟩
def BX.set(h:BX S b c a k M s e){f:O}{d:Ex}(g:HX (k::S) b c a M f d):BX S b c a k (ag M k 0 [.i d.op,.i d.bQ,.s f]) f d:=⟨cw.ag (m:=M) (o:=0) (r:=[.i d.op,.i d.bQ,.s f]) h.b,g.put aL _ _⟩
def HX.iy(f:HX (k::S) b c a M s e)(r:Rs d h g Q M)(l:Rd d h j g)(m:g.size<=k)(n:Q<=i):XP S d h g i (WX b c a) (.agg #[vi e.op,vi e.bQ,O.v s]) (ag M k 0 [.i e.op,.i e.bQ,.s s]):=
 ⟨s,e,rfl,(f.put aL _ _).fw.sl,f.wx,(r.put l m _ _).r.mono n,(r.put l m _ _).f⟩
end
section
variable{b:List Nat}{c P:Nat}{g d p:O}{f:List bz}{e:List dA}{m:E}
def J6(hS:∀l∈b,l<m.size)(z:c∈b)(l:GC c g P d p f e m)(hP:P+200+Cg 18<=10^16):aM cq 281 [vp c 0,.agg #[O.v d,O.v p]] m (XP b c g m (P+200+Cg 18) (WX f e.length 0)):=by
 apply CT (c,0);simp -zeta only[aC,aB];intro h q A;let⟨x2,hl⟩:=dP (a:=h) (c:=q) rfl rfl;have s1:h.size=m.size+1:=by simp[h]
 have s2:q.size=m.size+2:=by simp[q,s1]
 have X:J q A:=J.push _ _;have y:=l.rd.lt;have ac:ar (bP [c] A) (.mk q.size 0 3 3) [1,1,3]:=ar.lit aD _ bJ rfl rfl aL;clear_value A;clear_value q;have G:∀{i:E},q.size<=i.size->∀l∈h.size::b,l<i.size:=λF=>bT hS V V;have r3:Rs c g m P A:=⟨(x2.trans X).fz _,(l.rd.ext x2).ext X⟩;have z3:=X.size;refine(k8 r3.r V ac aL).mono λ_ m4⟨W,u,ht,d4,H⟩=>⟨(lw y bJ:Lw c [h.size,m.size] A).dv H,W,u,?_⟩;have r4:=r3.to H d4;have z4:=H.size;intro Q;have x5:J m4 Q:=J.push _ _;have ae:ar (bP [c] Q) (.mk m4.size 0 1 1) [W]:=ar.lit aD _ (by simp;exact d4.lt) rfl rfl aL;clear_value Q;have R:=r4.ext x5;have z5:=x5.size;refine FR (S:=h.size::b) (G V) (by simp[z]) (l.to R.f R.r) V ae aL (l.gp.ty (t:=0) be be) be (lw y bJ) λD s6 v h6 d6 f6=>?_;intro m7 B;let⟨x8,b8,z8⟩:=BX.new (f:=m7) (d:=B) h6 rfl rfl;clear_value B;have z6:=f6.size;have T:=(R.to f6 d6).ext x8;have L:v.size≠c:=V;have Z:∀{i:E},B.size<=i.size->Lw c [v.size,h.size,m.size] i:=λF=>lw y bJ;refine⟨λi=>∃U u,BX (h.size::b) f e.length 1 v.size i U u/\Rs c g m (P+2+Cg 18) i/\B.size<=i.size,?_,?_⟩
 .refine(cD T.r V 3).mono λ_ n⟨Y,en,_,_,x,j⟩=>⟨(Z (ad _)).dv j,Y,en,λ_=>?_,λ_=>⟨s6,D,b8.fz (by simp[z]) L j,⟨(T.to j x).f,x.mono V⟩,j.size⟩⟩;have s:=b8.fz (by simp[z]) L j;have z9:=j.size;intro o;have w:J n o:=J.push _ _;have N:fF (bP (v.size::h.size::b) o) (.mk n.size 0 1 1) [D]:=pb (S:=v.size::h.size::b) (M:=n) [(D,s6)] aL (bT (G (i:=n) V) (ad _) s.b.lt) (by simp;exact s.h.sl) rfl rfl;have vQ:=w.size;refine jC (M:=o) N (.fe (a:=1) (b:=f) (c:=e.length) be (λF=>V) be (λF=>V) (by simp;exact s.h.wx)) (Z V) λab af K C=>?_;have r:=((T.to j x).ext w).ext C;have I:=((s.ext w).ext C).set K;exact⟨ab,.mk 5 0 [D],I,⟨(r.put l.rd V _ _).f,((r.put l.rd V _ _).r).mono V⟩,by rw[aw];have:=C.size;omega⟩
 rintro i ⟨U,u,r,aa,ah⟩;refine⟨_,r.b.bU 0,_,r.b.bU 1,_,r.b.bU 2,?_⟩;have Y:∀{i:E},B.size<=i.size->Lw c [h.size,m.size] i:=λF=>lw y bJ;refine XP.kk (Ml (c:=h.size::b) f e.length (G V) (by simp[z]) aa.r V W) (Y ah) λs9 e9 n h9 w9 x j=>?_;have I:=λag=>kg j y (k:=v.size) ⟨V,r.b.lt⟩ ag;refine⟨I _,I _,I _,?_⟩;have z9:=j.size;intro o;have w:J n o:=J.push _ _;have s:=r.fz (by simp[z]) L j;have N:fF (bP (h.size::b) o) (.mk n.size 0 2 2) [e9,u]:=pb (S:=h.size::b) (M:=n) [(e9,s9),(u,U)] aL (G V) (by simp;exact⟨h9,s.h.fw.sl⟩) rfl rfl;refine jC (M:=o) N (.lt w9 r.h.wx) (Y (oh w.size)) λab af K C=>?_;exact K.iy (((aa.to j x).ext w).ext C) l.rd V V
def JT(hS:∀j∈b,j<m.size)(y:c∈b)(j:GC c g P d p f e m)(hP:P+200+2*Cg 18<=10^16){I:Nat}{q:dA}(hq:e[I]? =some q)(h1:1<=q.params.length):
 aM cq 284 [vp c 0,.agg #[O.v d,O.v p],vi I] m (XP b c g m (P+200+2*Cg 18) (WX f e.length q.params.length)):=by
 apply CI (c,0)
 simp -zeta only[aC,aB]
 intro i C
 let⟨x2,hl⟩:=dP (a:=i) (c:=C) rfl rfl
 have s1:i.size=m.size+1:=by simp[i]
 have s2:C.size=m.size+2:=by simp[C,s1]
 have x:=j.rd.lt
 clear_value C
 have v:∀{h:E},C.size<=h.size->∀j∈i.size::b,j<h.size:=λl=>bT hS V V
 have r2:Rs c g m P C:=⟨x2.fz _,j.rd.ext x2⟩
 have s:∀{h:E},C.size<=h.size->Lw c [i.size,m.size] h:=λl=>lw x bJ
 let⟨ps,ap,e0,e1⟩:=j.hp.aG hq
 have aV:=az hq
 have aY:=j.hp.len
 have X:=xk _ (j.gp.dx q (au hq))
 have h3:q.params.length<=3:=X.1
 have W:∀{h:E},Fz [c] m h->IR c h ps q.params:=λac=>ap.le (fh ac)
 have E1:∀{h:E},Fz [c] m h->af h p.D (p.off+I*5+1)=some (vi q.aT):=λac=>(eF.1 (fh ac _ _ _ e1)).2
 refine⟨V,V,ps,(eF.1 (fh r2.f _ _ _ e0)).2,?_⟩
 refine xf (i.size::b) f e.length (a:=q.params.length) (s (ad _)) V λs3 m3 ao x3=>?_
 have z3:=x3.size
 refine Jj (i.size::b) f e.length q.params.length (s z3) 1 λs4 m4 h4 x4=>?_
 have z4:=x4.size
 intro m5
 have x5:J m4 m5:=J.push _ _
 have aI:fF (bP (i.size::b) m5) (.mk m4.size 0 2 2) [.mk 12 0 [],.mk 0 1 []]:=pb (S:=i.size::b) (M:=m4) [(.mk 12 0 [],s3),(.mk 0 1 [],s4)] aL (v V) (by simp;exact⟨(ao.ext x4).sl,h4.sl⟩) rfl rfl
 have z5:=x5.size
 refine jC (M:=m5) aI (.fe (a:=q.params.length) (b:=f) (c:=e.length) be (λl=>V) be (λl=>V) (by simp;exact⟨ao.wx,h4.wx⟩)) (s V) λs6 K h6 x6=>?_
 have z6:=x6.size
 have r6:=(((r2.ext x3).ext x4).ext x5).ext x6
 intro m7
 have x7:J K m7:=J.push _ _
 have g7:GE (i.size::b) K m7 (.mk K.size 0 1 1) [.mk 2 0 [.mk 12 0 [],.mk 0 1 []]]:=KY (v V) 0 [(.mk 2 0 [.mk 12 0 [],.mk 0 1 []],s6)] aL (by simpa using h6.sl) rfl rfl
 clear_value m7
 have aZ:=ap.len
 refine Q4 (a:=q.params.length) V h1 (λY F h=>∃z,GE (i.size::b) K h F z/\z.length=Y/\(∀w∈z,WX f e.length q.params.length w)/\Rd c g (P+22*Y) h/\Fz [c] K h) ⟨_,g7,rfl,by simpa using h6.wx,(r6.r.ext x7).mono V,x7.fz _⟩ ?_
 rintro Y F h aU μ aW hj ⟨z,r,aX,hw,rM,fM⟩ aN
 have U:=r6.f.trans fM
 have zM:=fM.size
 refine⟨λl=>?_,λ_=>?_⟩
 .simp only[aq]at l
  let⟨A,o⟩:=cK q.params Y
  have u:=X.2.1 A (au o)
  refine⟨V,V,A,(eF.1 ((W U).aG o)).2,?_⟩
  exact XP.kL (rP (f:=F.D::i.size::b) (bT (v (h:=h) V) (ad _) r.bh.2) (by simp[y]) (j.to U rM) V (W U) V (j.gp.ty u.1 u.2)) r fM (s V) r6.r (by simp[y]) V λw av N G g' L D _ _=>
   aN V _ _ ⟨_,g',bJ,λB H=>by rcases List.mem_append.1 H with l|l;exact hw B l;simp at l;subst l;exact G.1,L.mono V,D⟩
 refine jC (r.done BQ.mono (v (h:=K) V) be V) (.fe (a:=q.params.length) (b:=f) (c:=e.length) be (λl=>V) be (λ_=>⟨V,V⟩) hw) (s V) λs8 o h8 x8=>?_
 intro m9 A
 let⟨ax,ab,vQ⟩:=BX.new (f:=m9) (d:=A) h8 rfl rfl
 clear_value A
 have z8:=x8.size
 have D:Rs c g m (P+66) A:=⟨(U.then x8).then ax,((rM.ext x8).ext ax).mono V⟩
 have hk:o.size≠c:=V
 refine⟨λh=>∃F w,BX (i.size::b) f e.length q.params.length o.size h F w/\Rs c g m (P+66+Cg 18) h/\A.size<=h.size,⟨V,V,_,E1 D.f,λ_=>?_,λ_=>⟨s8,_,ab,⟨D.f,D.r.mono V⟩,ad _⟩⟩,?_⟩
 .have T:∀{h:E},A.size<=h.size->Lw c [o.size,i.size,m.size] h:=λl=>lw x bJ
  have ag:∀{h:E},A.size<=h.size->∀j∈o.size::i.size::b,j<h.size:=λl=>bT (v (h:=A) V) l V
  refine FR (S:=o.size::i.size::b) (ag (ad _)) (by simp[y]) (j.to D.f D.r) V (W D.f) V (j.gp.ty (t:=0) be be) be (T (ad _)) λH ah Z N aj u=>?_
  have r:=λR=>kg u x (k:=o.size) ⟨V,ab.b.lt⟩ R
  refine⟨r _,r _,r _,?_⟩
  have aE:=u.size
  intro B
  have G:J Z B:=J.push _ _
  have ae:=ab.fz (by simp[y]) hk u
  have Q:fF (bP (o.size::i.size::b) B) (.mk Z.size 0 2 2) [H,.mk 9 I z]:=pb (S:=o.size::i.size::b) (M:=Z) [(H,ah),(.mk 9 I z,s8)] aL (ag aE) (by simp;exact⟨N.sl,ae.h.sl⟩) rfl rfl
  have aT:=G.size
  refine jC (M:=B) Q (.Pn (by simp;exact⟨N.wx,h8.wx⟩)) (T V) λai aa ak L=>?_
  have al:=(((D.to u aj).ext G).ext L).put j.rd (k:=o.size) V 0 [.i 6,.i 1,.s ai]
  have hb:=((ae.ext G).ext L).set ak
  exact⟨ai,.mk 6 1 [H,.mk 9 I z],hb,al,by rw[aw];have:=L.size;omega⟩
 rintro M3 ⟨F,w,u,av,a2⟩
 refine Jj (i.size::b) f e.length q.params.length (s V) 0 λah Z N ay=>?_
 have aE:=ay.size
 refine xf (i.size::b) f e.length (a:=q.params.length) (s V) V λaO B al G=>?_
 have aT:=G.size
 intro aa
 have L:J B aa:=J.push _ _
 have Q:fF (bP (i.size::b) aa) (.mk B.size 0 2 2) [.mk 0 0 [],.mk 12 0 []]:=pb (S:=i.size::b) (M:=B) [(.mk 0 0 [],ah),(.mk 12 0 [],aO)] aL (v V) (by simp;exact⟨(N.ext G).sl,al.sl⟩) rfl rfl
 have a3:=L.size
 refine jC (M:=aa) Q (.fe (a:=q.params.length) (b:=f) (c:=e.length) be (λl=>V) be (λl=>V) (by simp;exact⟨N.wx,al.wx⟩)) (s V) λaP aJ am aA=>?_
 intro aK ar
 let⟨aR,aj,a5⟩:=BX.new (f:=aK) (d:=ar) am rfl rfl
 clear_value ar
 have a4:=aA.size
 have ai:=(((ay.trans G).trans L).trans aA).trans aR
 have T:=av.ext ai
 have u:=u.ext ai
 refine⟨_,u.b.bU 0,_,u.b.bU 1,_,u.b.bU 2,V,V,_,E1 T.f,?_⟩
 refine FR (S:=i.size::b) (v V) (by simp[y]) (j.to T.f T.r) V (W T.f) V (j.gp.ty X.2.2.1 X.2.2.2) be (lw x bJ) λak aQ ae an aG H=>?_
 have r:=λR=>kg H x (k:=o.size) ⟨V,u.b.lt⟩ R
 have g':=λR=>kg H x (k:=aJ.size) ⟨V,aj.b.lt⟩ R
 refine⟨?_,?_,?_,?_,?_,?_,?_⟩
 iterate 6 first|exact r _|exact g' _
 have a6:=H.size
 intro ag
 have aD:J ae ag:=J.push _ _
 have aF:=u.fz (by simp[y]) hk H
 have Q:fF (bP (i.size::b) ag) (.mk ae.size 0 3 3) [.mk 4 0 [.mk 0 0 [],.mk 12 0 []],w,ak]:=pb (S:=i.size::b) (M:=ae) [(.mk 4 0 [.mk 0 0 [],.mk 12 0 []],aP),(w,F),(ak,aQ)] aL (v V) (by simp;exact⟨(aj.h.fw.fz (by simp[y]) H).sl,aF.h.fw.sl,an.sl⟩) rfl rfl
 refine jC (M:=ag) Q (.fe (a:=q.params.length) (b:=f) (c:=e.length) be (λ_=>rfl) be (λl=>V) (by simp;exact⟨am.wx,u.h.wx,an.wx⟩)) (lw x (by have:=aD.size;simp;omega)) λa1 a0 aH aS=>?_
 exact aH.iy (((T.to H aG).ext aD).ext aS) j.rd V V
end
end
section
section
variable{c:List Nat}{b P:Nat}{h d p:O}{f:List bz}{g:List dA}{m:E}
def WX.m1{d c:Nat}{x y z:Ex}(hd:f∈rY)(j:WX f d c x)(k:WX f d c y)(l:WX f d (c+2) z):WX f d c (.mk 8 1 [x,y,z]):=by
 obtain⟨e,-,g,h,-⟩:=Nw f hd;refine .mt j (by rw[e];rfl) aL λi n m b a=>?_;rw[e]at a;rcases i with _|_|i
 .simp at b a;subst b a;rw[g];exact k
 .simp at b a;subst b a;rw[h];exact l
 .simp at b
def J9(hS:∀r∈c,r<m.size)(H:b∈c)(r:GC b h P d p f g m)(hP:P+200+2*Cg 18<=10^16){F:Nat}{q:dA}(hq:g[F]? =some q){ai:Int}(ha:0<=ai/\ai<(q.params.length:Int)):
 aM cq 282 [vp b 0,.agg #[O.v d,O.v p],vi F,vi ai] m (XP c b h m (P+200+2*Cg 18) (WX f g.length q.params.length)):=by
 apply CV (b,0)
 simp -zeta only[aC,aB]
 intro j Z
 let⟨x2,hl⟩:=dP (a:=j) (c:=Z) rfl rfl
 have s1:j.size=m.size+1:=by simp[j]
 have s2:Z.size=m.size+2:=by simp[Z,s1]
 have hr:=r.rd.lt
 clear_value Z
 have an:∀{i:E},Z.size<=i.size->∀r∈j.size::c,r<i.size:=λl=>bT hS V V
 have r2:Rs b h m P Z:=⟨x2.fz _,r.rd.ext x2⟩
 have L1:∀{i:E},Z.size<=i.size->Lw b [j.size,m.size] i:=λl=>lw hr bJ
 let⟨ps,aY,e0,e1⟩:=r.hp.aG hq
 have ba:=az hq
 have bf:=r.hp.len
 have aN:=xk _ (r.gp.dx q (au hq))
 have h3:q.params.length<=3:=aN.1
 have PS:∀{i:E},Fz [b] m i->IR b i ps q.params:=λK=>aY.le (fh K)
 have E1:∀{i:E},Fz [b] m i->af i p.D (p.off+F*5+1)=some (vi q.aT):=λK=>(eF.1 (fh K _ _ _ e1)).2
 have bg:=aY.len
 have a0:=r.gp.ty (t:=0) be be
 have bd:=QN 18
 refine⟨V,V,ps,(eF.1 (fh r2.f _ _ _ e0)).2,?_⟩
 intro m3
 have x3:J Z m3:=J.push _ _
 have aO:ar (bP [b] m3) (.mk Z.size 0 2 2) [0,1]:=ar.lit aD _ bJ rfl rfl aL
 clear_value m3
 have r3:=r2.ext x3
 have z3:=x3.size
 refine(eM (S:=[b]) bJ (PS r3.f) aO bJ).mono λ_ m4⟨aS,wl,u,gw,qw,x4⟩=>⟨(L1 z3).dv (x4.fz _),aS,u,?_⟩
 subst qw
 have a6:IR b m4 aS (q.params++[0,1]):=GI.done gw bJ bJ
 have r4:=r3.ext x4
 have z4:=x4.size
 intro m5
 have x5:J m4 m5:=J.push _ _
 have g5:GE (j.size::c) m4 m5 (.mk m4.size 0 0 0) []:=Gr.new _ (ad _) _ _ _
 clear_value m5
 refine dV (n:=q.params.length) V (λN w i=>∃I,GE (j.size::c) m4 i w I/\I.length=N/\(∀u∈I,WX f g.length (q.params.length+2) u)/\Rd b h (P+N) i/\Fz [b] m4 i) ⟨[],g5,rfl,aL,(r4.r.ext x5).mono V,x5.fz _⟩ ?_
 rintro N w i a4 μ hj ⟨I,aK,bc,hw,rM,fM⟩ a8
 have FM:=r4.f.trans fM
 have zM:=fM.size
 refine⟨λl=>?_,λ_=>?_⟩
 .simp only[aq]at l
  let⟨aU,L⟩:=cK q.params N
  have iy:∀{K:Nat}{T:List Value}{y:E}{R:Nat},aM cq K T y (XP (w.D::j.size::c) b h y R (WX f g.length (q.params.length+2)))->R<=P+(N+1)->Rd b h (P+(N+1)) y->Fz [b] i y->aM cq K T y λab A=>dY [j.size,m.size] y A/\∃G C:Int,∃r2:O,ab=.agg #[vi G,vi C,O.v r2]/\
   jM (A.push (.cells (bA [.i G,.i C,.s r2]) bK)) bK [.i 0,.i 0,.s .nil] 40 w (O.mk A.size 0 1 1) λW z=>dY [j.size,m.size] (A.push (.cells (bA [.i G,.i C,.s r2]) bK)) z/\a4 W (cR ((N:Int)+1)) z/\μ W (cR ((N:Int)+1)) z<μ w N i:=λhc hQ C Y=>
   XP.kL hc (aK.dQ BQ.mono Y (by simp;exact⟨Or.inr H,V⟩)) (fM.trans Y) (L1 V) r4.r (by simp[H]) V λu W z s g' r' f' _ _=>
    a8 V _ _ ⟨_,g',bJ,λo B=>by rcases List.mem_append.1 B with l|l;exact hw o l;simp at l;subst l;exact s,r'.mono hQ,f'⟩
  refine⟨λ_=>?_,λ_=>⟨V,V,aU,(eF.1 ((PS FM).aG L)).2,λ_=>?_,λ_=>iy (((mw _ _ _).x rM).mono λ_ _ l=>l.mono (λu s=>s▸.UG ⟨V,V⟩) (ad _)) V (rM.mono V) (Fz.aA _ _)⟩⟩
  .rw[aP (b:=(ps.len:Int)+1) V V]
   exact iy (((mw _ _ _).x rM).mono λ_ _ l=>l.mono (λu s=>s▸.UG ⟨V,V⟩) (ad _)) V (rM.mono V) (Fz.aA _ _)
  .refine(cD rM V 2).mono λ_ m6⟨ae,en,_,_,D,B⟩=>⟨(L1 V).dv B,ae,en,λ_=>?_,λ_=>iy (((mw _ _ _).x D).mono λ_ _ l=>l.mono (λu s=>s▸.UG ⟨V,V⟩) (ad _)) V D B⟩
   have z6:=B.size
   have aa:∀{y:E},m6.size<=y.size->∀r∈w.D::j.size::c,r<y.size:=λl=>bT (an (i:=m6) V) l (oh aK.bh.2)
   refine xf (w.D::j.size::c) f g.length (a:=q.params.length+2) (L1 V) V λs7 m7 h7 Q=>?_
   have z7:=Q.size
   refine xf (w.D::j.size::c) f g.length (a:=q.params.length+2) (L1 V) V λs8 o h8 x8=>?_
   have z8:=x8.size
   intro m9
   have x9:J o m9:=J.push _ _
   have X:fF (bP (w.D::j.size::c) m9) (.mk o.size 0 2 2) [.mk 12 N [],.mk 12 ps.len []]:=pb (S:=w.D::j.size::c) (M:=o) [(.mk 12 N [],s7),(.mk 12 ps.len [],s8)] aL (aa V) (by simp;exact⟨(h7.ext x8).sl,h8.sl⟩) rfl rfl
   have U:=((D.ext Q).ext x8).ext x9
   exact iy ((nl U X 1 0).mono λ_ _ l=>l.mono (λu s=>s▸.fe be (λl=>V) be (λl=>V) (by simp;exact⟨h7.wx,h8.wx⟩)) (ad _)) V U (((B.then Q).then x8).then x9)
 refine jC (aK.done BQ.mono (an (i:=m4) V) be V) (.fe (a:=q.params.length+2) (b:=f) (c:=g.length) be (λl=>V) be (λ_=>⟨V,V⟩) hw) (L1 V) λs6 m6 h6 x6=>?_
 have z6:=x6.size
 intro m7 o
 let⟨x8,B8,z8⟩:=kJ (M:=m6) (d:=m7) (c:=o) rfl rfl rfl
 clear_value o
 intro m9 C
 let⟨aT,av,vQ⟩:=BX.new (f:=m9) (d:=C) (h6.ext x8) rfl rfl
 clear_value C
 have aa:Rs b h m (P+3) C:=⟨((FM.then x6).then x8).then aT,(((rM.ext x6).ext x8).ext aT).mono V⟩
 have hk:o.size≠b:=V
 have L2:∀{i:E},C.size<=i.size->Lw b [o.size,m6.size,j.size,m.size] i:=λl=>lw hr bJ
 have ao:∀{i:E},C.size<=i.size->∀r∈o.size::j.size::c,r<i.size:=λl=>bT (an (i:=C) V) l V
 have aV:∀{i:E},Fz [b] m4 i->IR b i aS (q.params++[0,1]):=λK=>a6.le (fh K)
 have aX:Fz [b] m4 C:=((fM.then x6).then x8).then aT
 have wl:(q.params++[0,1]).length=q.params.length+2:=aL
 refine⟨λi=>∃w u,BX (j.size::c) f g.length (q.params.length+2) o.size i w u/\Rs b h m (P+10+Cg 18) i/\C.size<=i.size,⟨V,V,_,E1 aa.f,λaZ=>?_,λ_=>⟨V,V,_,E1 aa.f,λ_=>?_,λ_=>⟨s6,_,av,⟨aa.f,aa.r.mono V⟩,ad _⟩⟩⟩,?_⟩
 .simp only[aE]at aZ
  refine(cD aa.r V 5).mono λ_ ac⟨ae,en,_,_,aJ,z⟩=>⟨(L2 (ad _)).dv z,ae,en,λ_=>?_,λ_=>⟨V,V,_,E1 (aa.f.trans z),λl=>by rw[aZ]at l;exact absurd l be,λ_=>⟨s6,_,av.fz (by simp[H]) hk z,⟨(aa.to z aJ).f,aJ.mono V⟩,z.size⟩⟩⟩
  have Q:=aa.to z aJ
  have T:=z.size
  have aW:=av.fz (by simp[H]) hk z
  refine FR (v:=q.params++[0,1]) (S:=o.size::j.size::c) (ao T) (by simp[H]) (r.to Q.f Q.r) V (aV (aX.trans z)) bJ a0 be (L2 T) λal aA A am ak s=>?_
  rw[wl]at am
  intro Y U
  let⟨ab,aI,a_⟩:=BX.new (f:=Y) (d:=U) am rfl rfl
  clear_value U
  have a2:=s.size
  have ay:=(Q.to s ak).ext ab
  have aj:=(aW.fz (by simp[H]) hk s).ext ab
  have bb:A.size≠b:=V
  have aH:HX (A.size::o.size::j.size::c) f g.length (q.params.length+2) U s6 (.mk 9 F I):=(aW.h.fz (by simp[H]) s).jT ab (ad _)
  have L3:∀{i:E},U.size<=i.size->Lw b [A.size,o.size,m6.size,j.size,m.size] i:=λl=>lw hr bJ
  refine⟨λi=>∃w u,BX (o.size::j.size::c) f g.length (q.params.length+2) A.size i w u/\HX (o.size::j.size::c) f g.length (q.params.length+2) i s6 (.mk 9 F I)/\Rs b h m (P+4+Cg 18) i/\U.size<=i.size/\cw i o.size bK [.i 9,.i F,.s s6],⟨λ_=>?_,λ_=>⟨aA,al,aI,aH.fw,ay,ad _,aj.b⟩⟩,?_⟩
  .let⟨aU,L⟩:=cK q.params 0
   refine⟨be,V,aU,(eF.1 ((PS ay.f).aG L)).2,λ_=>?_,λ_=>⟨aA,al,aI,aH.fw,ay,ad _,aj.b⟩⟩
   refine xf (A.size::o.size::j.size::c) f g.length (a:=q.params.length+2) (L3 (ad _)) V λaF ap ax R=>?_
   have a3:=R.size
   refine xf (A.size::o.size::j.size::c) f g.length (a:=q.params.length+2) (L3 a3) V λaG G ah B=>?_
   have bh:=B.size
   intro aQ
   have a1:J G aQ:=J.push _ _
   have X:fF (bP (A.size::o.size::j.size::c) aQ) (.mk G.size 0 2 2) [.mk 12 0 [],.mk 12 ps.len []]:=pb (S:=A.size::o.size::j.size::c) (M:=G) [(.mk 12 0 [],aF),(.mk 12 ps.len [],aG)] aL (bT (ao (i:=G) V) (ad _) V) (by simp;exact⟨(ax.ext B).sl,ah.sl⟩) rfl rfl
   have bi:=a1.size
   refine jC (M:=aQ) X (.fe (a:=q.params.length+2) (b:=f) (c:=g.length) be (λl=>V) be (λl=>V) (by simp;exact⟨ax.wx,ah.wx⟩)) (L3 V) λaR a7 a5 a9=>?_
   have D:=((R.trans B).trans a1).trans a9
   have hb:=(aI.ext D).set a5
   have ha:=(aH.ext D).put (k:=A.size) aL 0 [.i 11,.i 0,.s aR]
   have hB:cw (ag a7 A.size 0 [.i 11,.i 0,.s aR]) o.size bK [.i 9,.i F,.s s6]:=(aj.b.ext D).congr (bo _ _ _ _ V)
   exact⟨aR,.mk 11 0 [.mk 12 0 [],.mk 12 ps.len []],hb,ha.fw,(ay.ext D).put r.rd V _ _,by rw[aw];have:=D.size;omega,hB⟩
  rintro M3 ⟨w,u,L,D,W,aR,aU⟩
  refine⟨_,L.b.bU 0,_,L.b.bU 1,_,L.b.bU 2,?_⟩
  intro ap
  have R:J M3 ap:=J.push _ _
  have X:fF (bP (o.size::j.size::c) ap) (.mk M3.size 0 2 2) [u,.mk 9 F I]:=pb (S:=o.size::j.size::c) (M:=M3) [(u,w),(.mk 9 F I,s6)] aL (ao V) (by simp;exact⟨L.h.fw.sl,D.sl⟩) rfl rfl
  have a3:=R.size
  refine jC (M:=ap) X (.Pn (by simp;exact⟨L.h.wx,D.wx⟩)) (L2 V) λaG G ah B=>?_
  have hb:=(BX.mk (e:=.mk 9 F I) ((aU.ext R).ext B) ((D.ext R).ext B)).set ah
  have aQ:=((W.ext R).ext B).put r.rd (k:=o.size) V 0 [.i 6,.i 1,.s aG]
  exact⟨aG,.mk 6 1 [u,.mk 9 F I],hb,⟨aQ.f,aQ.r.mono V⟩,by rw[aw];have:=B.size;omega⟩
 .intro ac
  have D:J C ac:=J.push _ _
  have aO:ar (bP [b] ac) (.mk C.size 0 2 2) [1,2]:=ar.lit aD _ bJ rfl rfl aL
  clear_value ac
  have T:=D.size
  have G:∀{y M2:E}{B:Nat},C.size<=y.size->Fz [b] y M2->m.size<=B->B<C.size->∀z,af M2 B z=af y B z:=λl K h1 h2 z=>kg K hr ⟨h1,V⟩ z
  refine⟨G (ad _) (D.fz _) V V _,G (ad _) (D.fz _) V V _,G (ad _) (D.fz _) V V _,G (ad _) (D.fz _) V V _,G (ad _) (D.fz _) V V _,?_⟩
  have Q:=aa.ext D
  refine(k8 Q.r V aO aL).mono λ_ A⟨ae,en,hn,ak,s⟩=>⟨(L2 T).dv s,ae,en,G T s V V _,G T s V V _,G T s V V _,G T s V V _,G T s V V _,?_⟩
  have aI:=Q.to s ak
  have a2:=s.size
  refine FR (v:=q.params++[0,1]) (S:=o.size::j.size::c) (ao V) (by simp[H]) (r.to aI.f aI.r) V (aV ((aX.then D).trans s)) bJ a0 be (L2 V) λaG aU Y aH aQ ah=>?_
  rw[wl]at aH
  have aW:=ah.size
  refine⟨G V ah V V _,G V ah V V _,G V ah V V _,?_⟩
  intro U
  have ab:J Y U:=J.push _ _
  have ay:=((av.ext D).fz (by simp[H]) hk s).fz (by simp[H]) hk ah
  have X:fF (bP (o.size::j.size::c) U) (.mk Y.size 0 2 2) [aG,.mk 9 F I]:=pb (S:=o.size::j.size::c) (M:=Y) [(aG,aU),(.mk 9 F I,s6)] aL (ao V) (by simp;exact⟨aH.sl,ay.h.sl⟩) rfl rfl
  have a_:=ab.size
  simp at hn
  refine jC (M:=U) X (.fe (a:=q.params.length+2) (b:=f) (c:=g.length) V (λl=>V) V (λl=>V) (by simp;exact⟨aH.wx,ay.h.wx⟩)) (L2 V) λaF ap ax R=>?_
  have hb:=((ay.ext ab).ext R).set ax
  have aJ:=(((aI.to ah aQ).ext ab).ext R).put r.rd (k:=o.size) V 0 [.i ae,.i 0,.s aF]
  exact⟨aF,.mk ae 0 [aG,.mk 9 F I],hb,⟨aJ.f,aJ.r.mono V⟩,by rw[aw];have:=R.size;omega⟩
 rintro M3 ⟨w,u,L,W,aR⟩
 have L3:∀{i:E},C.size<=i.size->Lw b [m6.size,j.size,m.size] i:=λl=>lw hr bJ
 have R:∀{y M2:E}{B:Nat},M3.size<=y.size->Fz [b] y M2->m.size<=B->B<C.size->∀z,af M2 B z=af y B z:=λl K h1 h2 z=>kg K hr ⟨h1,V⟩ z
 refine⟨V,V,_,E1 W.f,_,L.b.bU 0,_,L.b.bU 1,_,L.b.bU 2,?_⟩
 refine xf (j.size::c) f g.length (a:=q.params.length) (L3 aR) ha λax ac ae D=>?_
 have T:=D.size
 have gx:∀B z,m.size<=B->B<C.size->af ac B z=af M3 B z:=λB z h1 h2=>R (ad _) (D.fz _) h1 h2 z
 refine⟨gx _ _ V V,gx _ _ V V,gx _ _ V V,(E1 (W.f.then D)).trans (E1 W.f).symm,gx _ _ V V,gx _ _ V V,gx _ _ V V,?_⟩
 have Q:=W.ext D
 refine FR (S:=j.size::c) (an V) (by simp[H]) (r.to Q.f Q.r) V (PS Q.f) V (r.gp.ty aN.2.2.1 aN.2.2.2) be (L3 V) λal aA A am ak s=>?_
 have G:∀z,af A o.size z=af ac o.size z:=R T s V V
 refine⟨G _,G _,G _,?_⟩
 have a2:=s.size
 intro Y
 have ah:J A Y:=J.push _ _
 have aj:=(L.ext D).fz (by simp[H]) hk s
 have X:fF (bP (j.size::c) Y) (.mk A.size 0 3 3) [.mk 12 ai [],al,u]:=pb (S:=j.size::c) (M:=A) [(.mk 12 ai [],ax),(al,aA),(u,w)] aL (an V) (by simp;exact⟨(ae.fz (by simp[H]) s).sl,am.sl,aj.h.fw.sl⟩) rfl rfl
 refine jC (M:=Y) X (.m1 r.gp.ds ae.wx am.wx L.h.wx) (L3 (oh ah.size)) λay U ap ab=>?_
 exact ap.iy (((Q.to s ak).ext ah).ext ab) r.rd V V
end
end
end Go.Proofs.YtkoifinbblcbiaaGreat
