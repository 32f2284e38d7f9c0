/- Part of a proof. -/
import Derived.Test.YtdalfjkmdekijaaGreatUG01
set_option linter.all false
set_option maxHeartbeats 8000000
set_option maxRecDepth 100000
namespace Go.Proofs.YtdalfjkmdekijaaGreat
open Go.Vc
section
variable{b:List Nat}{e:E}{d g:O}{f:List eP}{c:Prop}{W:Nat}
def xg(U:∀c∈b,c<e.size){lt:O}{w:List bo}{K:List (List Int)}(z:dX e d g w f)(hW:W<=1000000)(hk:uI w f c W)(ah:oF e lt K)(aQ:K.length=f.length)(av:∀c∈K,c.length<=3):
 qU 260 [.agg #[O.v d,O.v g],O.v lt] e b w λA=>uI w A c W/\A.length=f.length:=by
 apply Ck
 simp -zeta only[aE,aD]
 intro j a2
 let⟨N,F⟩:=dj (a:=j) (c:=a2) rfl rfl
 have s1:j.size=e.size+1:=by simp[j]
 clear_value a2
 have ay:=z.iD.len;have aS:=z.nA
 refine(fD (b:=j.size::b) (bQ U N.size (F _ aH)) (z.le N.le).bt z.types).mono λ_ aa⟨dd,h,ar,P⟩=>?_
 subst h
 refine⟨P.da F,_,rfl,?_⟩
 intro t aJ al
 have u2:=N.trans P
 let⟨x5,B0,g0,s3,s5⟩:=kD (b:=t.size::j.size::b) iv.mono (d:=aa) (a:=t) (c:=aJ) (h:=al) rfl rfl rfl
 clear_value al
 have Y:∀c∈[j.size,e.size],c<aa.size:=λc l=>P.lt (F c l)
 have ag:∀c∈j.size::b,c<aa.size:=λc l=>P.lt (bQ U N.size (F _ aH) c l)
 refine kj (R:=λk o M=>∃d g A,Value.agg #[O.v k,O.v o]=.agg #[O.v d,O.v g]/\dX (bG b M) d g w A/\(uI w A c W/\A.length=f.length)/\J e M) (t:=f.length) (f:=e) (b:=b) iv.mono bh bh U ⟨V,Y _ aH⟩ u2 s3 ar ay V x5 B0 g0 (λI k=>(pc f)[I]? =some k.params.length/\k.params.length<=3/\k.df.length<=3/\WB w (pc f) c k.params.length k.body/\k.body.w<=W) (λp r' aj m' h1 D o r s=>⟨p,r',aj,rfl,⟨h1,D,z.types,V⟩,⟨GY hk.gS o r,o⟩,s⟩) λI M u aj aM μ au aP xM ae Q aL=>?_
 let⟨k,Z⟩:=cg f I au
 let⟨ax,aO,aC,hw⟩:=hk.de k (aq Z)
 have v6:=u2.trans xM
 let⟨aU,aW,r,c1,c2,c3,e0,e1,e2,e3,e4⟩:=z.iD.aO Z
 have G:∀{am:Value}{r y:Nat},af e r y=some am->af M r y=some am:=λC=>v6.af C
 refine⟨V,V,_,G e0,_,G e1,_,G e2,_,G e3,_,G e4,?_⟩
 intro m7 o
 have hy:=ae.bg
 have aN:=Q.lt
 have zM:=xM.size
 have x8:J M o:=(J.push M _).ai (ad _) _ _
 have s8:o.size=M.size+1:=by simp[o,m7,aA]
 clear_value o
 have H:∀c∈[M.size,j.size,e.size],c<o.size:=λc l=>by
  rcases List.mem_cons.1 l with h|h
  .omega
  .have:=Y c h;omega
 have B:=v6.trans x8
 have s:∀{M1 M2:E},J o M1->J o M2->∀r,r<o.size->∀y,af M2 r y=af M1 r y:=λC h' r hb y=>aK (by rw[h'.same r hb,C.same r hb]) y
 have x:M.size<o.size:=V
 have i2:t.size<o.size:=V
 let⟨ac,ai⟩:=cg K I
 let⟨yt,aG,T⟩:=ah.aO ai
 have aF:=av ac (aq ai)
 have aR:=ah.len
 have X:∀{M':E},o.size<=M'.size->∀c∈u.az::t.size::j.size::b,c<M'.size:=λC c l=>by
  simp only[aV]at l;rcases l with h|h|h|h
  .omega
  .omega
  .have:=ag c (by simp[h]);omega
  .have:=ag c (by simp[h]);omega
 refine⟨u,(Q.ext x8).cJ 1,V,V,yt,B.af T,?_⟩
 refine(bO (u.az::t.size::j.size::b) (c1.ext B) V).aI (J.aF o) H λp' _ m9 gp h p _=>⟨_,rfl,s (J.aF _) p _ x _,s (J.aF _) p _ x _,s (J.aF _) p _ x _,((B.trans p).af T).trans (B.af T).symm,s (J.aF _) p _ i2 _,?_⟩
 subst h
 refine(bO (u.az::t.size::j.size::b) (aG.ext (B.trans p)) V).aI p H λt' _ aI gt h an v=>⟨_,rfl,s p v _ x _,s p v _ x _,s p v _ x _,s p v _ i2 _,?_⟩
 subst h
 have z9:=p.size;have aX:=an.size
 refine(vj k.body (u.az::t.size::j.size::b) aI (X V) r (c3.le (B.trans v).le) V).aI v H λss b' ak az h ao L=>⟨_,_,rfl,s v L _ x _,s v L _ i2 _,?_⟩
 subst h
 intro aT
 have ab:=x8.trans L
 have aY:=L.size
 have aw:ap (bG (u.az::t.size::j.size::b) ak) p' k.params:=(gp.done (X V) V).le ((an.trans ao).cR _)
 have aB:ap (bG (u.az::t.size::j.size::b) ak) t' ac:=(gt.done (X V) V).le (ao.cR _)
 exact Gr.box (g:=[.s .nil,.s .nil,.i 0,.s .nil,.i 0]) (j:=1) (y:=88) (i:=[.s dd,.s u]) (w:=⟨k.params,ac,k.aR,k.body⟩) iv.mono bh (ae.ext iv.mono ab) ((xM.trans ab).fz []) ⟨p',t',ss,rfl,aw,aB,az⟩ V (Q.ext ab) aH bh ⟨V,aH⟩ (λc l=>by have h1:=H c l;have D:=Y c;simp only[aV]at l D;rcases l with h|h|h|h<;>first|omega|(have:=D (by simp[h]);omega)|simp at h) λr' m' g' D f' z' q'=>aL r' m' _ g' D f'.ext ⟨Iw (q:=k) Z,ax,aF,aC,hw⟩
def Jg(hS:∀c∈b,c<e.size){A:List bo}(Z:dX e d g A f)(hW:W<=1000000)(hk:uI A f c W):qU 250 [.agg #[O.v d,O.v g]] e b A λt=>uI A t c W:=by
 apply BL;simp -zeta only[aE,aD];intro i a2;let⟨x2,G⟩:=dj (a:=i) (c:=a2) rfl rfl;have s1:i.size=e.size+1:=by simp[i]
 have s2:a2.size=e.size+2:=by simp[a2,s1]
 clear_value a2;have aG:=Z.iD.len;have aC:=Z.nA;have aj:∀c∈i.size::b,c<a2.size:=bQ hS x2.size (G _ aH);have p:∀{M q:E},J a2 M->J a2 q->∀ac,af q e.size ac=af M e.size ac:=λu h' ac=>aK (by rw[h'.same _ (G _ aH),u.same _ (G _ aH)]) ac;have tail:∀(Q:E)(a:Nat)(z y:O)(C:List eP),J a2 Q->a2.size<=a->cz Q a mD [.s z,.s y]->dX (bG (a::i.size::b) Q) z y A C->uI A C c W->
  ∃(I0:Int->E->Prop)(μ0:Int->E->Nat),I0 (0:Int) Q/\(∀(l:Int)(v:E),I0 l v->
   ((decide (l<=(12:Int)))=true->
    let U:E:=v.push (.cells (bD []) qD)
    ∃(w:O->Int->E->Prop)(μ1:O->Int->E->Nat),w (O.mk v.size 0 0 0) (0:Int) U/\(∀(s:O)(x:Int)(h:E),w s x h->
     ∃D:O,af h a 1=some (O.v D)/\
     ((decide (x<(D.len:Int)))=true->∃j:O,af h a 0=some (O.v j)/\∃k:O,af h a 1=some (O.v k)/\
      aN cq 262 [.agg #[O.v j,O.v k],vi x] h λY P=>eG [i.size,e.size] h P/\∃aa:O,Y=O.v aa/\
       let ae:E:=P.push (.cells (bD [.s aa]) qD)
       jb ae qD [.s O.nil] 24 s (O.mk P.size 0 1 1) λF B=>eG [i.size,e.size] ae B/\w F (cQ (x+(1:Int))) B/\μ1 F (cQ (x+(1:Int))) B<μ1 s x h)/\
     ((decide (x<(D.len:Int)))=false->∃j:O,af h a 0=some (O.v j)/\∃k:O,af h a 1=some (O.v k)/\
      aN cq 260 [.agg #[O.v j,O.v k],O.v s] h λH I=>eG [i.size,e.size] h I/\∃B:O,∃F:O,H=.agg #[O.v B,O.v F]/\fg I a 0 2/\
       let L:E:=ai I a 0 [.s B,.s F]
       eG [i.size,e.size] I L/\I0 (cQ (l+(1:Int))) L/\μ0 (cQ (l+(1:Int))) L<μ0 l v)))/\
   ((decide (l<=(12:Int)))=false->∃j:O,af v a 0=some (O.v j)/\∃k:O,af v a 1=some (O.v k)/\
    let ag:E:=ai v i.size 0 [.s j,.s k]
    ∃d g t,Value.agg #[O.v j,O.v k]=.agg #[O.v d,O.v g]/\dX (bG b ag) d g A t/\uI A t c W/\J e ag)):=by
  intro Q a z y C T au hB hN R
  refine dZ (n:=13) V (λ_ M=>J a2 M/\∃z y C,cz M a mD [.s z,.s y]/\dX (bG (a::i.size::b) M) z y A C/\uI A C c W) ⟨T,z,y,C,hB,hN,R⟩ ?_
  rintro aJ v az μ aB ⟨x6,z,y,C,H,N,K⟩ ay
  have aA:=H.lt
  have aI:=N.iD.len
  have aF:=N.nA
  refine⟨λu=>?_,λu=>?_⟩
  .simp only[an]at u
   intro U
   have ap:J v U:=J.push _ _
   have g0:Ze [] v U (.mk v.size 0 0 0) []:=Gr.new _ (ad _) _ _ _
   refine dx (n:=C.length) V (λx s M=>J v M/\∃l,Ze [] v M s l/\l.length=x/\∀c∈l,c.length<=3) ⟨ap,[],g0,rfl,aH⟩ ?_
   rintro x s h I2 μ2 hf ⟨D,l,ab,ar,B⟩ am
   have u8:=x6.trans D
   have N8:=N.le (D.cR _)
   refine⟨y,(H.ext D).cJ 1,dit (λF=>?_) λF=>?_⟩
   .let⟨X,hq⟩:=cg C x
    have ao:=(K.de X (aq hq)).2.1
    have j:=ab.bg
    refine⟨z,(H.ext D).cJ 0,y,(H.ext D).cJ 1,?_⟩
    refine(Jb (e:=[s.az]) bN (N8.le (bz _ _)) K hq).aI u8 G λaa av P ak aw x9 u9=>⟨_,rfl,?_⟩
    intro ae
    refine Gr.ku (g:=[.s .nil]) mf.mono bh (ab.ext mf.mono x9) ((D.trans x9).fz []) ⟨aa,rfl,ak.done bN V⟩ V λw q g' k _ _=>⟨J.nR (u9.aP _) (x6.trans k.ext) G,am V _ _ ⟨k.ext,_,g',bN,λal j=>?_⟩⟩
    rcases List.mem_append.1 j with j|j
    .exact B al j
    .simp at j;subst j;omega
   .refine⟨z,(H.ext D).cJ 0,y,(H.ext D).cJ 1,?_⟩
    have ak:oF h s l:=eN.le (ab.done mf.mono aH bh V) (bz _ _) (mf.le (bz _ _))
    have z8:=D.size;have z6:=x6.size
    refine(xg (b:=a::i.size::b) (λc k=>?_) (N8.le (bz _ _)) hW K ak V B).mono λ_ I⟨d2,Y,ao,j,N2,⟨K2,_⟩,aa⟩=>?_
    .rcases List.mem_cons.1 k with j|j
     .omega
     .have:=aj c j;omega
    subst j
    have ae:=(H.ext D).ext aa
    refine⟨u8.Vm G aa,_,_,rfl,ae.fg aH,?_⟩
    intro L
    have al:∀P,P≠a->L[P]? =I[P]? :=λP hb=>bd _ _ _ _ hb
    refine⟨λc k=>al c (oh (G c k)),ay V _ ⟨(u8.trans aa).ai au _ _,d2,Y,ao,cz.ai (m:=I) (o:=0) (r:=[.s d2,.s Y]) ae,N2.le (cb aH λ_ u=>u),K2⟩⟩
  .refine⟨z,H.cJ 0,y,H.cJ 1,?_⟩
   intro ag
   exact⟨z,y,C,rfl,(N.le (gN v λc k=>ah _ k)).le (cb aH λc k=>ah _ k),K,(x2.trans x6).ai V _ _⟩
 have av:∀X∈f,X.params.length<=3:=λX hq=>(hk.de X hq).1;have al:∀(M:E)(L:List Nat)(K:Value->E->Prop),J a2 M->(∀c∈L,c<M.size)->(∀s l q,oF q s l->l.length=f.length->(∀c∈l,c.length<=3)->J M q->K (O.v s) q)->aN cq 261 [.agg #[O.v d,O.v g]] M λak U=>eG L M U/\K ak U:=λM L K T hL R=>
  (Fl (e:=[]) aH (Z.le (x2.trans T).le) av).mono λ_ q⟨s,l,j,I,F,B,Y⟩=>⟨Y.da hL,j▸R s l q (eN.le I (bz _ _) (mf.le (bz _ _))) F B Y⟩
 have df:∀(M:E)(S' L:List Nat)(K:Value->E->Prop)(s:O)(l:List (List Int)),J a2 M->(∀c∈L,c<M.size)->(∀c∈S',c<M.size)->oF M s l->l.length=f.length->(∀c∈l,c.length<=3)->(∀x w t q,dX (bG S' q) x w A t->uI A t c W->J M q->K (.agg #[O.v x,O.v w]) q)->aN cq 260 [.agg #[O.v d,O.v g],O.v s] M λak U=>eG L M U/\K ak U:=λM S' L K s l T hL ar I F B R=>
  (xg ar (Z.le (x2.trans T).le) hW hk I F B).mono λ_ q⟨x,w,t,j,N,⟨K1,_⟩,Y⟩=>⟨Y.da hL,j▸R x w t q N K1 Y⟩
 have am:∀{M:E}{a:Nat},J a2 M->a<M.size->∀c∈a::i.size::b,c<M.size:=λu hb c k=>by
  have:=u.size;rcases List.mem_cons.1 k with j|j
  .omega
  .have:=aj c j;omega
 have ag:∀{M:E}{a:Nat},J a2 M->a<M.size->∀c∈[a,i.size,e.size],c<M.size:=λu hb c k=>by
  rcases List.mem_cons.1 k with j|j
  .omega
  .exact u.lt (G c j)
 refine⟨al a2 _ _ (J.aF _) G λs l ab I F B h=>⟨_,rfl,p (J.aF _) h _,p (J.aF _) h _,⟨?_,?_⟩⟩,?_⟩
 .refine df ab (i.size::b) _ _ s l h (λc k=>h.lt (G c k)) (λc k=>h.lt (aj c k)) I F B λx w t m3 N K P=>⟨_,_,rfl,?_⟩;have D:=h.trans P;intro m4;have u4:J a2 m4:=D.aP _;refine⟨p D u4 _,p D u4 _,p D u4 _,p D u4 _,?_⟩;intro m5;have aa:J m3 m5:=(J.push m3 _).ai (ad _) _ _;exact tail m5 m3.size x w t (D.trans aa) D.size (cz.ai (m:=m4) (o:=0) (r:=[.s x,.s w]) (cz.push m3 _ _)) (N.le (aa.bG λc k=>by
   rcases List.mem_cons.1 k with j|j
   .exact Or.inr V
   .exact Or.inl j)) K
 .intro aa;have D:J a2 aa:=h.aP _;refine⟨p h D _,p h D _,p h D _,p h D _,?_⟩;refine df aa (ab.size::i.size::b) _ _ s l D (ag D (by simp[aa])) (am D (by simp[aa])) (oF.ext (J.push _ _) I) F B λx w t ae N K P=>⟨_,_,rfl,?_⟩;intro ao;exact tail ao ab.size x w t ((D.trans P).ai h.size _ _) h.size (cz.ai (m:=ae) (o:=0) (r:=[.s x,.s w]) ((cz.push ab _ _).ext P)) (N.le (cb aH λ_ u=>u)) K
 .intro aa;have D:J a2 aa:=J.push _ _;refine⟨p (J.aF _) D _,p (J.aF _) D _,p (J.aF _) D _,p (J.aF _) D _,?_⟩;refine al aa _ _ D (ag D (by simp[aa])) λs l ap I F B h=>⟨_,rfl,p D (D.trans h) _,p D (D.trans h) _,?_⟩;have ae:=D.trans h;have ao:a2.size<ap.size:=h.lt (by simp[aa]);refine df ap (a2.size::i.size::b) _ _ s l ae (ag ae ao) (am ae ao) I F B λx w t aw N K P=>⟨_,_,rfl,?_⟩;intro ax;exact tail ax a2.size x w t ((ae.trans P).ai (ad _) _ _) (ad _) (cz.ai (m:=aw) (o:=0) (r:=[.s x,.s w]) ((cz.push a2 _ _).ext (h.trans P))) (N.le (cb aH λ_ u=>u)) K
end
section
variable{w:Int}{r:List Int}
structure bS where
 aS:Int
 mK:Int
 aL:List Int
structure be where
 dV:Int
 pc:Int
 dst:Int
 av:List Int
 ba:List Int
 bA:List Int
structure St where
 cW:Int
 value:Int
 bL:Int
 eD:Int
 bB:List Int
 heap:List bS
 aj:List be
def aO(l:List Int)(i:Int):Int:=l.getD i.toNat 0
def iF(l:List Int)(i:Int)(v:Int):List Int:=l.set i.toNat v
def ix(w:Int):Nat:=(w -1000).toNat
def gY(w:Int):Prop:=-999<=w/\w<=999
def ib(h:List bS)(a:Nat):Prop:=∃c,h[a]? =some c/\0<c.aS
def gZ(h:List bS)(w:Int):Prop:=1000<=w/\ib h (ix w)
def pS(h:List bS)(w:Int):Prop:=gY w\/gZ h w
def jT:bS:=⟨0,0,[]⟩
def aZ(h:List bS)(w:Int):bS:=(h[ix w]?).getD jT
def aac:cZ:=⟨[],[],0,0,[]⟩
def dm(a:cp)(n:Int):cZ:=(a.cv[n.toNat]?).getD aac
def gA(a:cp):Int:=(eI a.bt).length
def eK:List Int->Nat->Int
 |[],_=>0
 |w::b,a=>(if w=1000+(a:Int)then 1 else 0)+eK b a
def dP:List bS->Nat->Int
 |[],_=>0
 |c::h,a=>eK c.aL a+dP h a
def cN:List Int->List Int->Nat->Int
 |r::c,o::b,a=>(if r=1000+(a:Int)then o else 0)+cN c b a
 |_,_,_=>0
def eA:List be->Nat->Int
 |[],_=>0
 |f::b,a=>cN f.av f.ba a+eA b a
def holds:List be->Nat->Int
 |[],_=>0
 |f::b,a=>eK f.bA a+holds b a
def nN(a:cp)(x:Instr)(k:Nat):Bool:=(dm a x.bK).df.any (λy=>y==(k:Int))
def jA(a:cp)(x:Instr):Nat->List Int->List Int
 |_,[]=>[]
 |k,r::b=>if nN a x k then jA a x (k+1) b else r::jA a x (k+1) b
def mq(a:cp)(x:Instr):Nat->List Int->List Int
 |_,[]=>[]
 |k,r::b=>if nN a x k then r::mq a x (k+1) b else mq a x (k+1) b
def dF(a:cp)(x:Instr):List Int:=
 if x.op=15\/x.op=6\/x.op=10\/x.op=11\/x.op=18\/x.op=23 then x.args
 else if x.op=16\/x.op=17 then x.args.take 1
 else if x.op=9\/x.op=24 then jA a x 0 x.args
 else[]
def dK(av ba:List Int):List Int->List Int
 |[]=>ba
 |r::a=>dK av (if 1000<=aO av r then iF ba r (aO ba r -1)else ba) a
def dB(f:be)(a:List Int):List Int:=a.map (aO f.av)
def rc(l:List Int):List Int:=l.filter (λw=>decide (1000<=w))
def nW(h:List bS)(a:List Int):Prop:=∀w∈a,1000<=w->(aZ h w).aS+eK a (ix w)<=999999
def Ny(h:List bS)(f:be)(x:Instr):Prop:=
 let w:=aO f.av (aO x.args 0)
 gZ h w/\rc (aZ h w).aL=dB f (x.args.drop 1)/\((aZ h w).aS=1\/nW h (aZ h w).aL)/\(x.op=17->aO f.bA (aO x.args 0)=0)
def Em(a:cp)(h:List bS)(w:Int):Prop:=
 gZ h w/\0<=(aZ h w).mK -gA a/\(aZ h w).mK -gA a<a.cv.length/\
  (dm a ((aZ h w).mK -gA a)).params.length=(aZ h w).aL.length+1/\(dm a ((aZ h w).mK -gA a)).df.length=0/\
  ((aZ h w).aS=1\/nW h (aZ h w).aL)
def JP(h:List bS)(f:be)(x:Instr):Prop:=
 x.bW≠0->aO f.bA (x.bW -1)≠0->(aZ h (aO f.bA (x.bW -1))).aL.length=x.args.length
def OK(a:cp)(h:List bS)(f:be)(x:Instr):Prop:=∀r∈mq a x 0 x.args,1000<=aO f.av r->gZ h (aO f.av r)
def UJ(l:List Int):Prop:=∀n∈l,n=0
structure uh(im:cp)(s:St)(f:be)(x:Instr)(ba:List Int):Prop where
 nn:∀o∈ba,0<=o
 dst:jD x.op->aO ba x.dst<=0
 pA:(x.op=1\/x.op=2\/x.op=3\/x.op=4\/x.op=5\/x.op=20)->∀r∈x.args,aO f.av r<1000
 lX:x.op=6->JP s.heap f x
 df:(x.op=9\/x.op=24)->OK im s.heap f x
 zero:(x.op=24\/x.op=23)->UJ ba/\UJ f.bA
 ret:x.op=23->1<s.aj.length\/aO f.av (aO x.args 0)<1000
 apply:x.op=11->Em im s.heap (aO f.av (aO x.args 0))
 Zj:x.op=14->gZ s.heap (aO f.av (aO x.args 0))/\(aZ s.heap (aO f.av (aO x.args 0))).aS<999999
 drop:x.op=15->1000<=aO f.av (aO x.args 0)
 TV:(x.op=16\/x.op=17)->Ny s.heap f x
 load:x.op=19->gZ s.heap (aO f.av (aO x.args 0))/\x.bK<(aZ s.heap (aO f.av (aO x.args 0))).aL.length
 Ok:x.op=21->gZ s.heap (aO f.av (aO x.args 0))/\(aZ s.heap (aO f.av (aO x.args 0))).mK∈bY im.bt x.bK
def JZ(n:Int):Int:=if n< -999 then -999 else if 999<n then 999 else n
def T0(c a b:Int):Int:=
 if c=1 then JZ (a+b)else if c=2 then JZ (a -b)else if c=3 then JZ (a*b)else if c=4/\a<b then 1 else 0
def fp:List bS->Nat
 |[]=>0
 |c::h=>if c.aS=0 then 0 else fp h+1
def lX(h:List bS)(a:Nat)(c:bS):List bS:=if a=h.length then h++[c]else h.set a c
def oO(h:List bS)(w:Int):List bS:=h.set (ix w) {aZ h w with aS:=(aZ h w).aS+1}
def gE(h:List bS)(w:Int):List bS:=h.set (ix w) {aZ h w with aS:=(aZ h w).aS -1}
def kU(h:List bS):List Int->List bS
 |[]=>h
 |w::a=>kU (oO h w) a
def kH(h:List bS):Nat->Nat
 |0=>0
 |n+1=>match h[n]? with
  |some c=>if c.aS=0 then kH h n else n+1
  |none=>kH h n
def ru(h:List bS):List bS:=h.take (kH h h.length)
def IG:List bS->Nat
 |[]=>0
 |c::h=>(if 0<c.aS then c.aS.toNat+c.aL.length else 0)+IG h
def mh:∀{e:List bS}{f:Nat}{b d:bS},e[f]? =some b->IG (e.set f d)+(if 0<b.aS then b.aS.toNat+b.aL.length else 0)=IG e+(if 0<d.aS then d.aS.toNat+d.aL.length else 0)
 |[],f,b,d,e=>by simp at e
 |i::e,0,b,d,g=>by simp at g;subst g;simp only[iR,IG];omega
 |i::e,f+1,b,d,g=>by
  have:=mh (e:=e) (f:=f) (b:=b) (d:=d) (by simpa using g);simp only[iQ,IG];omega
def cw{h:List bS}(b:gZ h w):h[ix w]? =some (aZ h w)/\0<(aZ h w).aS:=by
 obtain⟨_,d,a,c⟩:=b;simp[aZ,a,c]
open Classical in
noncomputable def je (h:List bS) (c:List Int):List bS:=
 match c with
 |[]=>h
 |w::r=>
  if b:gZ h w then
   if a:(aZ h w).aS=1 then je (h.set (ix w) jT) ((aZ h w).aL.reverse++r)
   else je (gE h w) r
  else je h r
termination_by IG h+c.length
decreasing_by
 .let⟨e,a⟩:=cw b
  have:=mh (d:=jT) e
  simp only[jT,ak a]at this
  simp[jT]
  simp at this
  omega
 .let⟨e,a⟩:=cw b
  have b:=mh (d:={aZ h w with aS:=(aZ h w).aS -1}) e
  simp only[ak a]at b
  rw[ak V]at b
  simp[gE]
  omega
 .simp
def AG(h:List bS):je h []=h:=by rw[je]
def AH{h:List bS}(b:gZ h w)(a:(aZ h w).aS=1):je h (w::r)=je (h.set (ix w) jT) ((aZ h w).aL.reverse++r):=by
 rw[je,Su b,Su a]
def vP{h:List bS}(b:gZ h w)(a:(aZ h w).aS≠1):je h (w::r)=je (gE h w) r:=by
 rw[je,Su b,dif_neg a]
def vQ{h:List bS}(a:¬gZ h w):je h (w::r)=je h r:=by
 rw[je,dif_neg a]
def be.put(f:be)(r w o:Int):be:={f with av:=iF f.av r w,ba:=iF f.ba r o}
def jw(w:Int):Int:=if 1000<=w then 1 else 0
def ft(ba:List Int):List Int->List Int
 |[]=>ba
 |r::a=>ft (iF ba r (aO ba r+1)) a
def gB(n:Nat):List Int:=List.replicate n 0
def iB(df:List Int):Nat->List Int->List Int
 |_,[]=>[]
 |k,w::a=>(if df.any (λy=>y==(k:Int))then 0 else jw w)::iB df (k+1) a
def cK(a:cp)(g c:Int)(b:List Int):be:=
 ⟨g,0,c,b++gB ((dm a g).av.toNat -b.length),iB (dm a g).df 0 b++gB ((dm a g).av.toNat -b.length),gB (dm a g).av.toNat⟩
open Classical in
noncomputable def apart (h:List bS) (w:Int):List bS:=
 if(aZ h w).aS=1 then ru (h.set (ix w) jT)else kU (gE h w) (rc (aZ h w).aL)
def wQ(l:List Int)(n:Int):Nat:=l.findIdx (λy=>y==n)
open Classical in
noncomputable def jI (b:cp) (s:St) (a:List be) (f:be) (x:Instr) (ba:List Int):St:=
 let g:be:={f with ba:=ba,pc:=f.pc+1}
 let c:=aO x.args 0
 let w:=aO f.av c
 if x.op=0 then{s with aj:=a++[g.put x.dst x.bK 0]}
 else if x.op=1\/x.op=2\/x.op=3\/x.op=4 then{s with aj:=a++[g.put x.dst (T0 x.op w (aO f.av (aO x.args 1))) 0]}
 else if x.op=5 then{s with bB:=s.bB++[w],aj:=a++[g.put x.dst w 0]}
 else if x.op=6 then
  if x.bW≠0/\aO f.bA (x.bW -1)≠0 then
   {s with heap:=s.heap.set (ix (aO f.bA (x.bW -1))) ⟨1,x.bK,dB f x.args⟩,aj:=a++[{g with bA:=iF f.bA (x.bW -1) 0}.put x.dst (aO f.bA (x.bW -1)) 1]}
  else{s with heap:=lX s.heap (fp s.heap) ⟨1,x.bK,dB f x.args⟩,aj:=a++[g.put x.dst (1000+fp s.heap) 1]}
 else if x.op=10 then{s with heap:=lX s.heap (fp s.heap) ⟨1,gA b+x.bK,dB f x.args⟩,aj:=a++[g.put x.dst (1000+fp s.heap) 1]}
 else if x.op=14 then{s with heap:=oO s.heap w,aj:=a++[{g with ba:=iF ba c (aO ba c+1)}]}
 else if x.op=15 then{s with heap:=ru (je s.heap [w]),aj:=a++[g]}
 else if x.op=16\/x.op=17 then
  let d:={g with ba:=ft ba (x.args.drop 1)}
  if(aZ s.heap w).aS=1/\x.op=17 then{s with heap:=s.heap.set (ix w) ⟨-1,0,gB (aZ s.heap w).aL.length⟩,aj:=a++[{d with bA:=iF f.bA c w}]}
  else{s with heap:=apart s.heap w,aj:=a++[d]}
 else if x.op=18 then{s with aj:=a++[g.put x.dst w (jw w)]}
 else if x.op=19 then{s with aj:=a++[g.put x.dst (aO (aZ s.heap w).aL x.bK) 0]}
 else if x.op=20 then{s with aj:=a++[{g with pc:=if w=0 then x.bK else f.pc+1}]}
 else if x.op=21 then{s with aj:=a++[{g with pc:=aO x.di (wQ (bY b.bt x.bK) (aZ s.heap w).mK)}]}
 else if x.op=22 then{s with aj:=a++[{g with pc:=x.bK}]}
 else if x.op=9 then{s with bL:=s.bL+1,aj:=a++[g,cK b x.bK x.dst (dB f x.args)]}
 else if x.op=24 then{s with bL:=s.bL+1,aj:=a++[cK b x.bK f.dst (dB f x.args)]}
 else if x.op=11 then
  {s with bL:=s.bL+1,heap:=apart s.heap w,aj:=a++[g,cK b ((aZ s.heap w).mK -gA b) x.dst ((aZ s.heap w).aL++[aO f.av (aO x.args 1)])]}
 else -- 23
  match a.getLast? with
  |none=>{s with cW:=0,value:=w,aj:=[]}
  |some p=>{s with aj:=a.dropLast++[p.put f.dst w (jw w)]}
def vX(a:Int):Prop:=a=9\/a=11\/a=24
instance(a:Int):Decidable (vX a):=by unfold vX;infer_instance
def fJ(a:cp)(f:be):Instr:=((dm a f.dV).bn[f.pc.toNat]?).getD ⟨0,0,0,0,[],[]⟩
open Classical in
noncomputable def oD (a:cp) (s:St):St:=
 if s.cW≠3 then s else
 match s.aj.getLast? with
 |none=>s
 |some f=>
  if vX (fJ a f).op/\s.bL=s.eD then{s with cW:=1}
  else if uh a s f (fJ a f) (dK f.av f.ba (dF a (fJ a f)))then
   jI a s s.aj.dropLast f (fJ a f) (dK f.av f.ba (dF a (fJ a f)))
  else{s with cW:=2}
end
section
variable{f b:Nat}{h g:List bS}{e e':Nat->Int}{w:Int}{c d:bS}
def nP:∀(l r:List Int)(f:Nat),eK (l++r) f=eK l f+eK r f
 |[],r,f=>by simp[eK]
 |w::l,r,f=>by simp only[db,eK,nP l r f];omega
def yT:∀(l:List Int)(f:Nat),eK l.reverse f=eK l f
 |[],f=>rfl
 |w::l,f=>by simp only[List.reverse_cons,nP,yT l f,eK];omega
def iA:∀(l:List Int)(f:Nat),0<=eK l f
 |[],f=>by simp[eK]
 |w::l,f=>by have:=iA l f;simp only[eK];split<;>omega
def nj:∀{l:List Int}{f:Nat},(1000+(f:Int))∉l->eK l f=0
 |[],f,_=>rfl
 |w::l,f,h=>by
  simp only[aV,uH]at h;simp only[eK,nj h.2];rw[ae (λe=>h.1 e.symm)];rfl
def tS:∀{l:List Int}{f:Nat},(1000+(f:Int))∈l->1<=eK l f
 |[],f,h=>by simp at h
 |w::l,f,h=>by
  simp only[eK];rcases List.mem_cons.1 h with rfl|h
  .rw[ak rfl];have:=iA l f;omega
  .have:=tS h;split<;>omega
def NZ{l:List Int}(h:0<eK l f):(1000+(f:Int))∈l:=
 eT λa=>by rw[nj a]at h;omega
def RZ(n:Nat)(f:Nat):eK (gB n) f=0:=nj λh=>by have:=VC h;omega
def uZ:∀(l:List Int)(f:Nat),eK (rc l) f=eK l f
 |[],f=>rfl
 |w::l,f=>by
  have:=uZ l f;simp only[rc]at this⊢;rw[List.filter_cons];split
  .simp only[eK,this]
  .rename_i h;simp only[eK,this];rw[ae (λe=>h bN)];omega
def kA:∀(l:List Int)(f:Nat),eK l f<=l.length
 |[],f=>by simp[eK]
 |w::l,f=>by have:=kA l f;simp only[eK,aW];split<;>omega
def tU:∀(h k:List bS)(f:Nat),dP (h++k) f=dP h f+dP k f
 |[],k,f=>by simp[dP]
 |c::h,k,f=>by simp only[db,dP,tU h k f];omega
def qA:∀(h:List bS)(f:Nat),0<=dP h f
 |[],f=>by simp[dP]
 |c::h,f=>by have:=qA h f;have:=iA c.aL f;simp only[dP];omega
def yW:∀{h:List bS}{f:Nat}{c:bS}(e:bS)(_:h[f]? =some c)(b:Nat),dP (h.set f e) b=dP h b -eK c.aL b+eK e.aL b
 |[],f,c,e,h,b=>by simp at h
 |d::h,0,c,e,g,b=>by simp at g;subst g;simp only[iR,dP];omega
 |d::h,f+1,c,e,g,b=>by
  have:=yW (h:=h) (f:=f) e (by simpa using g) b;simp only[iQ,dP,this];omega
def Fa:∀{h:List bS}{f:Nat},0<dP h f->∃c∈h,(1000+(f:Int))∈c.aL
 |[],f,h=>by simp[dP]at h
 |c::h,f,e=>by
  simp only[dP]at e;rcases gW (0<eK c.aL f)with b|b
  .exact⟨c,aX,NZ b⟩
  .let⟨d,hd,g⟩:=Fa (h:=h) (f:=f) (oh (iA c.aL f));exact⟨d,ah _ hd,g⟩
def Rq:∀{h:List bS}{c:bS}(_:c∈h)(f:Nat),eK c.aL f<=dP h f
 |[],c,a,f=>by simp at a
 |d::h,c,a,f=>by
  simp only[dP];rcases List.mem_cons.1 a with rfl|a
  .have:=qA h f;omega
  .have:=Rq a f;have:=iA d.aL f;omega
structure nF(h:List bS)(c:bS):Prop where
 fl:c.aL.length<=3
 lo: -1<=c.aS
 hi:c.aS<=999999
 uP:c.aS<1->c.mK=0/\(∀w∈c.aL,w=0)/\(c.aS=0->c.aL=[])
 pG:0<c.aS->(∀w∈c.aL,pS h w)/\0<=c.mK/\c.mK<=99
def Sv(h:List bS):Prop:=∃a:Nat->Nat,∀(i:Nat)(c:bS),h[i]? =some c->∀w∈c.aL,1000<=w->a (ix w)<a i
structure fQ(h:List bS)(e:Nat->Int):Prop where
 cell:∀c∈h,nF h c
 JS:Sv h
 ex:∀(f:Nat)(c:bS),h[f]? =some c->0<c.aS->c.aS=dP h f+e f
 nn:∀f,0<=e f
 lv:∀f,0<e f->ib h f
def fQ.congr(c:fQ h e)(a:∀b,e' b=e b):fQ h e':=by
 have:e'=e:=funext a;rw[this];exact c
def jv(f:Nat):ix (1000+(f:Int))=f:=by unfold ix;omega
def iC(h:1000<=w):1000+((ix w:Nat):Int)=w:=by unfold ix;omega
def Qt{v:Int}(a:1000<=v)(b:1000<=w)(h:ix v=ix w):v=w:=by rw[<-iC a,<-iC b,h]
def fQ.field(i:fQ h e)(g:c∈h)(f:w∈c.aL)(j:1000<=w):gZ h w:=by
 have d:=i.cell c g;rcases gW (0<c.aS)with b|b
 .rcases(d.pG b).1 w f with a|a
  .have:=a.2;omega
  .exact a
 .have:=(d.uP V).2.1 w f;omega
def fQ.WZ(d:fQ h e)(g:¬ib h f):dP h f=0:=by
 rcases gW (0<dP h f)with a|a
 .let⟨c,b,i⟩:=Fa a;have:=(d.field b i V).2;rw[jv]at this;exact absurd this g
 .have:=qA h f;omega
def fQ.Yw(a:fQ h e)(c:¬ib h f):e f=0:=by
 have:=a.nn f;rcases gW (0<e f)with b|b
 .exact absurd (a.lv f b) c
 .omega
def gU(a:b≠f):(h.set f c)[b]? =h[b]? :=by rw[dT (λe=>a e.symm)]
def eU(hd:h[f]? =some d):(h.set f c)[f]? =some c:=by
 rw[dQ (ax hd)]
def ib.ne(a:b≠f):ib (h.set f c) b<->ib h b:=by unfold ib;rw[gU a]
def ib.Fe(hd:h[f]? =some d):ib (h.set f c) f<->0<c.aS:=by
 unfold ib;rw[eU hd];simp
def pS.mono(c:pS h w)(b:1000<=w->ib h (ix w)->ib g (ix w)):pS g w:=by
 rcases c with a|a
 .exact Or.inl a
 .exact Or.inr ⟨a.1,b a.1 a.2⟩
def nF.mono{h g:List bS}{c:bS}(a:nF h c)(e:0<c.aS->∀w∈c.aL,1000<=w->ib h (ix w)->ib g (ix w)):nF g c:=
 ⟨a.fl,a.lo,a.hi,a.uP,λb=>⟨λw d=>((a.pG b).1 w d).mono (e b w d),(a.pG b).2⟩⟩
def qv{x:bS}(i:x∈h.set f c):x=c\/∃b,b≠f/\h[b]? =some x:=by
 let⟨b,a⟩:=List.mem_iff_getElem?.1 i;by_cases e:b=f
 .subst e;rw[List.getElem?_set_self']at a;cases g:h[b]? with
  |none=>simp[g]at a
  |some d=>simp[g]at a;exact Or.inl a.symm
 .rw[gU e]at a;exact Or.inr ⟨b,e,a⟩
def fQ.JI(j:fQ h e)(g:h[f]? =some c)(i:0<c.aS){n:Int}(v:0<n)(u:n<=999999)
 (m:∀b,e' b=e b+if b=f then n -c.aS else 0)(s:0<=e' f):fQ (h.set f {c with aS:=n}) e':=by
 have p:∀b,ib (h.set f {c with aS:=n}) b<->ib h b:=λb=>by
  by_cases a:b=f
  .subst a;rw[ib.Fe g];exact⟨λ_=>⟨c,g,i⟩,λ_=>v⟩
  .exact ib.ne a
 have x:∀b,dP (h.set f {c with aS:=n}) b=dP h b:=λb=>by rw[yW _ g];simp only[];omega
 refine⟨λA y=>?_,?_,λb d hd t=>?_,λb=>?_,λb l=>?_⟩
 .rcases qv y with rfl|⟨b,_,l⟩
  .have q:=j.cell c (aq g)
   exact⟨q.fl,by simp only[];omega,u,λr=>by simp only[]at r;omega,λ_=>⟨λw k=>((q.pG i).1 w k).mono λ_ o=>(p _).2 o,(q.pG i).2⟩⟩
  .exact(j.cell A (aq l)).mono λ_ w _ _ o=>(p _).2 o
 .let⟨z,r⟩:=j.JS
  refine⟨z,λo d hd w k i=>?_⟩
  by_cases q:o=f
  .subst q;rw[eU g]at hd;simp at hd;subst hd;exact r o c g w k i
  .rw[gU q]at hd;exact r o d hd w k i
 .rw[x,m]
  by_cases a:b=f
  .subst a;rw[eU g]at hd;simp at hd;subst hd
   have:=j.ex b c g i
   simp only[ak];omega
  .rw[gU a]at hd
   have:=j.ex b d hd t
   rw[ae a];omega
 .by_cases a:b=f
  .subst a;exact s
  .rw[m,ae a];have:=j.nn b;omega
 .rw[p]
  by_cases a:b=f
  .subst a;exact⟨c,g,i⟩
  .rw[m,ae a]at l;exact j.lv b V
def fQ.Qr(j:fQ h e)(m:h[f]? =some c)(I:c.aS=1)(J:0<e f){c':bS}(C: -1<=c'.aS)(L:c'.aS<1)(G:c'.mK=0)
 (r:∀w∈c'.aL,w=0)(B:c'.aL.length<=3)(A:c'.aS=0->c'.aL=[])
 (p:∀b,e' b=e b -(if b=f then 1 else 0)+eK c.aL b):fQ (h.set f c') e':=by
 have o:=j.ex f c m V
 have O:=qA h f
 have N:dP h f=0:=V
 have K:e f=1:=V
 have u:∀x∈h,(1000+(f:Int))∉x.aL:=λx o g=>by
  have:=Rq o f;have:=tS g;omega
 have M:eK c.aL f=0:=nj (u c (aq m))
 have E:∀b,eK c'.aL b=0:=λb=>nj λg=>by have:=r _ g;omega
 have t:∀b,b≠f->ib h b->ib (h.set f c') b:=λb i q=>(ib.ne i).2 q
 have D:∀x∈h,∀w∈x.aL,1000<=w->ix w≠f:=λx o w g n y=>by
  have:=iC n;rw[y]at this;rw[<-this]at g;exact u x o g
 refine⟨λx o=>?_,?_,λb d hd z=>?_,λb=>?_,λb k=>?_⟩
 .rcases qv o with rfl|⟨b,_,k⟩
  .exact⟨B,C,V,λ_=>⟨G,r,A⟩,λn=>V⟩
  .exact(j.cell x (aq k)).mono λ_ w g n q=>t _ (D x (aq k) w g n) q
 .let⟨H,F⟩:=j.JS
  refine⟨H,λv d hd w g n=>?_⟩
  by_cases s:v=f
  .subst s;rw[eU m]at hd;simp at hd;subst hd;have:=r w g;omega
  .rw[gU s]at hd;exact F v d hd w g n
 .rw[yW _ m,E,p]
  by_cases i:b=f
  .subst i;rw[eU m]at hd;simp at hd;subst hd;omega
  .rw[gU i]at hd
   have:=j.ex b d hd z
   rw[ae i];omega
 .rw[p]
  have:=j.nn b
  have:=iA c.aL b
  split
  .rename_i i;subst i;omega
  .omega
 .rw[p]at k
  by_cases i:b=f
  .subst i;rw[ak rfl]at k;omega
  .rw[ae i]at k
   refine t b i ?_
   rcases gW (0<e b)with s|s
   .exact j.lv b s
   .have:=j.nn b
    have g:=NZ (l:=c.aL) (f:=b) V
    have:=(j.field (aq m) g V).2
    rwa[jv]at this
def fQ.make(l:fQ h e){v:Int}{c:List Int}(r:¬ib h f)(p:g[f]? =some ⟨1,v,c⟩)(o:∀b,b≠f->g[b]? =h[b]?)
 (E:∀b,dP g b=dP h b+eK c b)(z:∀w∈c,pS h w)(C:c.length<=3)(G:0<=v/\v<=99)(x:∀b,eK c b<=e b)
 (t:∀b,e' b=e b -eK c b+if b=f then 1 else 0):fQ g e':=by
 have u:∀b,ib h b->ib g b:=λb i=>by
  by_cases a:b=f
  .subst a;exact absurd i r
  .unfold ib;rw[o b a];exact i
 have L:=l.Yw r
 have N:=l.WZ r
 have M:eK c f=0:=by have:=iA c f;have:=x f;omega
 refine⟨λK I=>?_,?_,λb d hd B=>?_,λb=>?_,λb j=>?_⟩
 .let⟨b,j⟩:=List.mem_iff_getElem?.1 I
  by_cases a:b=f
  .subst a;rw[p]at j;simp at j;subst j
   exact⟨C,aH,aH,sx,λ_=>⟨λw n=>(z w n).mono λ_ i=>u _ i,G⟩⟩
  .rw[o b a]at j
   exact(l.cell K (aq j)).mono λ_ w _ _ i=>u _ i
 .let⟨s,F⟩:=l.JS
  refine⟨λk=>if k=f then(c.map λw=>s (ix w)).sum+1 else s k,λk d hd w n y=>?_⟩
  have H:ix w≠f:=λA=>by
   have D:gZ h w:=by
    by_cases m:k=f
    .subst m;rw[p]at hd;simp at hd;subst hd;rcases z w n with q|q
     .have:=q.2;omega
     .exact q
    .rw[o k m]at hd;exact l.field (aq hd) n y
   exact r (A▸D.2)
  simp only[ae H]
  by_cases m:k=f
  .subst m;rw[p]at hd;simp at hd;subst hd
   rw[ak rfl]
   have:∀(q:List Int),w∈q->s (ix w)<=(q.map λw=>s (ix w)).sum:=by
    intro q i;induction q with
    |nil=>simp at i
    |cons O q J=>
     simp only[cA,List.sum_cons];rcases List.mem_cons.1 i with rfl|i
     .omega
     .have:=J i;omega
   have:=this c n;omega
  .rw[ae m];rw[o k m]at hd;exact F k d hd w n y
 .rw[E,t]
  by_cases a:b=f
  .subst a;rw[p]at hd;simp at hd;subst hd
   rw[ak rfl];simp only[];omega
  .rw[o b a]at hd
   have:=l.ex b d hd B
   rw[ae a];omega
 .rw[t];have:=x b;split<;>omega
 .rw[t]at j
  by_cases a:b=f
  .subst a;exact⟨_,p,aH⟩
  .rw[ae a]at j
   exact u b (l.lv b (oh (iA c b)))
def fQ.je:∀(n:Nat)(h:List bS)(o:List Int)(e:Nat->Int),IG h+o.length<=n->fQ h (λb=>e b+eK o b)->(∀b,0<=e b)->fQ (je h o) e
 |n,h,[],e,_,a,_=>by rw[AG];exact a.congr λb=>by simp[eK]
 |n,h,w::r,e,f,a,d=>by
  rcases gW (gZ h w)with c|c
  .let⟨g,m⟩:=cw c;have s:=iC c.1;have l:∀b,eK (w::r) b=(if b=ix w then 1 else 0)+eK r b:=λb=>by
    simp only[eK];congr 1;by_cases k:b=ix w
    .subst k;rw[ak s.symm,ak rfl]
    .rw[ae k,ae (λi=>k (by rw[i,jv]))]
   have p:=mh (d:=jT) g;by_cases j:(aZ h w).aS=1
   .rw[AH c j];simp only[ak m,jT]at p;simp at p;cases n with
    |zero=>simp at f
    |succ n=>
    refine fQ.je n _ _ e ?_ (fQ.Qr a g j ?_ bh bh rfl (by simp[jT]) (by simp[jT]) (λ_=>rfl) λb=>?_) d
    .simp[jT]at f⊢;omega
    .simp only[l,ak];have:=d (ix w);have:=iA r (ix w);omega
    .simp only[l,nP,yT];omega
   .rw[vP c j];have q:=mh (d:={aZ h w with aS:=(aZ h w).aS -1}) g;simp only[ak m]at q;rw[ak V]at q;have t:=(a.cell _ (aq g)).hi;cases n with
    |zero=>simp at f
    |succ n=>
    refine fQ.je n _ _ e ?_ (fQ.JI a g m V V (λb=>?_) ?_) d
    .simp only[aW]at f;simp only[gE];omega
    .simp only[l];split<;>omega
    .have:=d (ix w);have:=iA r (ix w);omega
  .rw[vQ c];cases n with
   |zero=>simp at f
   |succ n=>
   refine fQ.je n _ _ e (by simp at f;omega) (a.congr λb=>?_) d;simp only[eK];rw[ae]
   .omega
   .intro i;have:=a.lv b (by simp only[eK,ak i];have:=d b;have:=iA r b;omega);exact c ⟨V,by rw[i,jv];exact this⟩
def tc(h:List bS):∀n,kH h n<=n
 |0=>ad _
 |n+1=>by
  simp only[kH];have:=tc h n;split
  .split<;>omega
  .omega
def ta(h:List bS):∀(n k:Nat)(c:bS),kH h n<=k->k<n->h[k]? =some c->c.aS=0
 |0,k,c,_,d,_=>V
 |n+1,k,c,a,e,b=>by
  simp only[kH]at a;by_cases d:k=n
  .subst d;rw[b]at a;simp only[]at a;split at a
   .assumption
   .omega
  .split at a
   .split at a
    .exact ta h n k c a V b
    .omega
   .exact ta h n k c a V b
def Lv(h:List bS):∀(n:Nat)(c:bS),n<=h.length->h[kH h n -1]? =some c->0<kH h n->c.aS≠0
 |0,c,_,_,b=>by simp[kH]at b
 |n+1,c,f,a,b=>by
  simp only[kH]at a b;let⟨d,hd⟩:=cg h n;rw[hd]at a b;simp only[]at a b;split at a
  .rename_i e;rw[ak e]at b;exact Lv h n c V a b
  .rename_i e;simp at a;rw[hd]at a;simp at a;subst a;exact e
def nv(h:List bS):Prop:=∀c,h[h.length -1]? =some c->c.aS≠0
def Gg(h:List bS):nv (ru h):=by
 intro c a;have d:=tc h h.length;unfold ru at a;rw[eJ,jt d]at a;rcases iS (kH h h.length)with b|b
 .rw[b]at a;simp at a
 .rw[dy V]at a;exact Lv h _ c (ad _) a b
def Nd:∀{h:List bS},(∀c∈h,c.aL=[])->∀f,dP h f=0
 |[],_,f=>rfl
 |c::h,a,f=>by simp only[dP,a c aX,eK,Nd (λd hd=>a d (ah _ hd)) f];rfl
def fQ.ru{h:List bS}{e:Nat->Int}(d:fQ h e):fQ (ru h) e:=by
 have u:=tc h h.length;have q:∀(b:Nat)(c:bS),h[b]? =some c->c.aS≠0->b<kH h h.length:=λb c a i=>
  eT λv=>i (ta h h.length b c V (ax a) a)
 have k:∀(b:Nat)(c:bS),(Go.Proofs.YtdalfjkmdekijaaGreat.ru h)[b]? =some c->h[b]? =some c:=λb c a=>by
  unfold Go.Proofs.YtdalfjkmdekijaaGreat.ru at a;have:=ax a;rw[eJ]at this;rwa[dy V]at a
 have l:∀b,ib h b->ib (Go.Proofs.YtdalfjkmdekijaaGreat.ru h) b:=λb⟨c,a,j⟩=>⟨c,by
  unfold Go.Proofs.YtdalfjkmdekijaaGreat.ru;rw[dy (q b c a V)];exact a,j⟩
 have s:∀b,dP (Go.Proofs.YtdalfjkmdekijaaGreat.ru h) b=dP h b:=λb=>by
  have m:h=Go.Proofs.YtdalfjkmdekijaaGreat.ru h++h.drop (kH h h.length):=(dw _ _).symm;have n:dP (h.drop (kH h h.length)) b=0:=Nd (λc a=>by
   let⟨o,g⟩:=List.mem_iff_getElem?.1 a;rw[ry]at g;have i:=ta h h.length _ c V (ax g) g;exact((d.cell c (aq g)).uP V).2.2 i) b
  have o:=th (λg=>dP g b) m;simp only[tU,n]at o;omega
 refine⟨λc a=>?_,?_,λf c a j=>?_,d.nn,λf p=>l f (d.lv f p)⟩
 .let⟨b,g⟩:=List.mem_iff_getElem?.1 a;exact(d.cell c (aq (k b c g))).mono λ_ w _ _ r=>l _ r
 .let⟨t,r⟩:=d.JS;exact⟨t,λg c a=>r g c (k g c a)⟩
 .rw[s];exact d.ex f c (k f c a) j
end
section
variable{l:List Int}{i x r:Int}{b:cp}{f:be}{s:St}
variable{B:Int}
def pJ(b:0<=i)(c:i<l.length):l[i.toNat]? =some (aO l i):=by
 let⟨x,a⟩:=cg l i.toNat;simp[aO,a]
def NF(h:l[i.toNat]? =some x):aO l i=x:=by simp[aO,h]
def iL(a:0<=i)(b:i<l.length):aO l i∈l:=iV (pJ a b)
def kd(l:List Int)(i v:Int):(iF l i v).length=l.length:=by simp[iF]
def sF{v:Int}(h:x∈iF l i v):x=v\/x∈l:=by
 rcases cL h with h|h
 .exact Or.inr h
 .exact Or.inl h
def Fh(l:List Int)(i v:Int)(k:Nat):(iF l i v)[k]? =if k=i.toNat/\k<l.length then some v else l[k]? :=by
 unfold iF;by_cases h:k=i.toNat
 .subst h;by_cases a:i.toNat<l.length
  .rw[dQ a,ak ⟨rfl,a⟩]
  .rw[ae V,Ef V]
 .rw[ae V,dT (λe=>h e.symm)]
def G8:∀(av ba:List Int)(k:Nat)(w o e d:Int)(a:Nat),av[k]? =some e->ba[k]? =some d->
 cN (av.set k w) (ba.set k o) a=cN av ba a -(if e=1000+(a:Int)then d else 0)+(if w=1000+(a:Int)then o else 0)
 |[],ba,k,w,o,e,d,a,b,c=>by simp at b
 |r::f,[],k,w,o,e,d,a,b,c=>by simp at c
 |r::f,q::g,0,w,o,e,d,a,b,c=>by
  simp at b c;subst b;subst c;simp only[iR,cN];omega
 |r::f,q::g,k+1,w,o,e,d,a,b,c=>by
  have:=G8 f g k w o e d a (by simpa using b) (by simpa using c);simp only[iQ,cN,this];omega
def T9{k:Nat}(h:l[k]? =some x):l.set k x=l:=by
 apply eL;intro i;by_cases a:k=i
 .subst a;rw[dQ (ax h),h]
 .rw[dT a]
def G6{av ba:List Int}(c:0<=r)(d:r<av.length)(e:r<ba.length)(o:Int)(a:Nat):
 cN av (iF ba r o) a=cN av ba a+(if aO av r=1000+(a:Int)then o -aO ba r else 0):=by
 have b:=pJ c d
 have:=G8 av ba r.toNat (aO av r) o _ _ a b (pJ c e)
 rw[T9 b]at this
 rw[iF,this];split<;>omega
def MY{av ba:List Int}(b:0<=r)(c:r<av.length)(d:r<ba.length)(e:aO ba r=0)(w o:Int)(a:Nat):
 cN (iF av r w) (iF ba r o) a=cN av ba a+(if w=1000+(a:Int)then o else 0):=by
 have:=G8 av ba r.toNat w o _ _ a (pJ b c) (pJ b d)
 rw[iF,iF,this,e];split<;>omega
def qI:∀{av ba:List Int},(∀o∈ba,0<=o)->∀a,0<=cN av ba a
 |[],ba,h,a=>by cases ba<;>simp[cN]
 |r::b,[],h,a=>by simp[cN]
 |r::b,o::d,h,a=>by
  have:=qI (av:=b) (ba:=d) (λx c=>h x (ah _ c)) a;have:=h o aX;simp only[cN];split<;>omega
def sH:∀{av ba:List Int},UJ ba->∀a,cN av ba a=0
 |[],ba,h,a=>by cases ba<;>simp[cN]
 |r::b,[],h,a=>by simp[cN]
 |r::b,o::d,h,a=>by
  have:=sH (av:=b) (ba:=d) (λx c=>h x (ah _ c)) a;have:=h o aX;simp only[cN,this];split<;>omega
def EW:∀{c o1:List Int}(b o2:List Int),c.length=o1.length->∀a,cN (c++b) (o1++o2) a=cN c o1 a+cN b o2 a
 |[],[],b,o2,_,a=>by simp[cN]
 |[],_::_,_,_,h,_=>by simp at h
 |_::_,[],_,_,h,_=>by simp at h
 |r::e,o::d,b,o2,h,a=>by
  have:=EW (c:=e) (o1:=d) b o2 (by simpa using h) a;simp only[db,cN,this];omega
def KB:∀{av ba:List Int}{e:Nat}{w o:Int}(_:∀o∈ba,0<=o)(_:av[e]? =some w)(_:ba[e]? =some o){c:Nat}(_:w=1000+(c:Int)),o<=cN av ba c
 |[],_,_,_,_,_,a,_,_,_=>by simp at a
 |_::_,[],_,_,_,_,_,b,_,_=>by simp at b
 |r::i,q::h,0,w,o,d,a,b,c,f=>by
  simp at a b;subst a;subst b;have:=qI (av:=i) (ba:=h) (λx g=>d x (ah _ g)) c;simp only[cN,ak f];omega
 |r::i,q::h,e+1,w,o,d,a,b,c,f=>by
  have:=KB (av:=i) (ba:=h) (e:=e) (λx g=>d x (ah _ g)) (by simpa using a) (by simpa using b) f;have:=d q aX;simp only[cN];split<;>omega
def fF:∀(l r:List be)(a:Nat),eA (l++r) a=eA l a+eA r a
 |[],r,a=>by simp[eA]
 |f::l,r,a=>by simp only[db,eA,fF l r a];omega
def j7(f:be)(a:Nat):eA [f] a=cN f.av f.ba a:=by simp[eA]
def ez:∀(l r:List be)(a:Nat),holds (l++r) a=holds l a+holds r a
 |[],r,a=>by simp[holds]
 |f::l,r,a=>by simp only[db,holds,ez l r a];omega
def iE(f:be)(a:Nat):holds [f] a=eK f.bA a:=by simp[holds]
def uT:∀(l:List be)(a:Nat),0<=holds l a
 |[],a=>by simp[holds]
 |f::l,a=>by have:=uT l a;have:=iA f.bA a;simp only[holds];omega
def qR(av:List Int):∀(a ba:List Int),(dK av ba a).length=ba.length
 |[],ba=>rfl
 |r::a,ba=>by simp only[dK];rw[qR av a];split<;>simp[kd]
def wO{av:List Int}:∀(b ba:List Int),(∀r∈b,0<=r/\r<av.length)->av.length=ba.length->∀a,cN av (dK av ba b) a=cN av ba a -eK (b.map (aO av)) a
 |[],ba,_,_,a=>by simp[dK,eK]
 |r::b,ba,h,c,a=>by
  have e:=h r aX;have f:=λba c=>wO (av:=av) b ba (λx d=>h x (ah _ d)) c a;simp only[dK,cA,eK];by_cases d:1000<=aO av r
  .rw[ak d,f _ (by rw[kd];exact c),G6 e.1 e.2 V];split<;>omega
  .rw[ae d,f _ c,ae V];omega
def sY{av:List Int}:∀(b ba:List Int)(k:Nat)(o:Int),(dK av ba b)[k]? =some o->∃q,ba[k]? =some q/\o<=q
 |[],ba,k,o,h=>⟨o,h,dh _⟩
 |r::b,ba,k,o,h=>by
  simp only[dK]at h;let⟨q,a,d⟩:=sY b _ k o h;split at a
  .rw[Fh]at a;split at a
   .rename_i c;let⟨y,e⟩:=dI c.2;have f:aO ba r=y:=by rw[aO,jk,<-c.1,e];rfl
    simp at a;exact⟨y,e,V⟩
   .exact⟨q,a,d⟩
  .exact⟨q,a,d⟩
def tL:∀(a ba:List Int),(ft ba a).length=ba.length
 |[],ba=>rfl
 |r::a,ba=>by simp only[ft];rw[tL a,kd]
def Er{av:List Int}:∀(b ba:List Int),(∀r∈b,0<=r/\r<av.length)->av.length=ba.length->∀a,cN av (ft ba b) a=cN av ba a+eK (b.map (aO av)) a
 |[],ba,_,_,a=>by simp[ft,eK]
 |r::b,ba,h,d,a=>by
  have c:=h r aX;simp only[ft,cA,eK];rw[Er (av:=av) b _ (λx e=>h x (ah _ e)) (by rw[kd];exact d) a,G6 c.1 c.2 V];split<;>omega
def JW{av:List Int}:∀(c ba:List Int),(∀r∈c,0<=r/\r<ba.length/\1000<=aO av r)->
 (∀(k:Nat)(o w:Int),ba[k]? =some o->av[k]? =some w->0<=o/\(0<o->1000<=w))->∀(k:Nat)(o w:Int),(ft ba c)[k]? =some o->av[k]? =some w->0<=o/\(0<o->1000<=w)
 |[],ba,_,h,k,o,w,a,b=>h k o w a b
 |r::c,ba,f,h,k,o,w,a,b=>by
  refine JW (av:=av) c (iF ba r (aO ba r+1)) (λx d=>by rw[kd];exact f x (ah _ d)) (λk o w a b=>?_) k o w a b;rw[Fh]at a;split at a
  .rename_i e;have d:=f r aX;have g:aO av r=w:=by rw[aO,jk,<-e.1,b];rfl
   have i:=h k (aO ba r) w (by rw[e.1];exact pJ d.1 d.2.1) b;simp at a;exact⟨V,λ_=>V⟩
  .exact h k o w a b
def fA(h:List bS)(a:Nat):Prop:=∃c,h[a]? =some c/\c.aS<0
structure gF(b:cp)(f:be):Prop where
 dV:0<=f.dV/\f.dV<b.cv.length
 pc:0<=f.pc/\f.pc<(dm b f.dV).bn.length
 lr:(f.av.length:Int)=(dm b f.dV).av
 lo:(f.ba.length:Int)=(dm b f.dV).av
 lh:(f.bA.length:Int)=(dm b f.dV).av
 Sc:∀w∈f.av,gY w\/1000<=w
 ba:∀(k:Nat)(o w:Int),f.ba[k]? =some o->f.av[k]? =some w->0<=o/\(0<o->1000<=w)
 bA:∀w∈f.bA,w=0\/1000<=w
structure fB(B:Int)(b:cp)(s:St):Prop where
 eS:qV B b
 cW:0<=s.cW/\s.cW<=3
 done:s.cW=0<->s.aj=[]
 value:gY s.value
 td:s.value≠0->s.cW=0
 eD:0<=s.eD/\s.eD<=40
 bL:0<=s.bL/\s.bL<=s.eD
 depth:(s.aj.length:Int)<=s.bL+1
 bB:∀n∈s.bB,gY n
 heap:fQ s.heap (eA s.aj)
 jc:nv s.heap
 aj:∀f∈s.aj,gF b f
 first:∀f,s.aj[0]? =some f->f.dst=0
 chain:∀(k:Nat)(f g:be),s.aj[k]? =some f->s.aj[k+1]? =some g->0<=g.dst/\g.dst<f.ba.length/\aO f.ba g.dst=0
 kJ:∀a,fA s.heap a->holds s.aj a=1
 mE:∀a,¬fA s.heap a->holds s.aj a=0
abbrev iT:=fB 2000
def gF.Pm(h:gF b f):∀o∈f.ba,0<=o:=λo c=>by
 let⟨k,a⟩:=List.mem_iff_getElem?.1 c;have e:=ax a;have:=h.lo;have:=h.lr;let⟨w,d⟩:=cg f.av k;exact(h.ba k o w a d).1
def EY{b:cp}:∀{c:List be},(∀f∈c,gF b f)->∀a,0<=eA c a
 |[],_,a=>by simp[eA]
 |f::c,h,a=>by
  have:=EY (λg d=>h g (ah _ d)) a;have:=qI (av:=f.av) (h f aX).Pm a;simp only[eA];omega
def fB.split(h:fB B b s)(c:s.cW=3):∃a f,s.aj=a++[f]:=by
 have:s.aj≠[]:=λe=>by have:=h.done.2 e;omega
 exact⟨s.aj.dropLast,s.aj.getLast this,(iG this).symm⟩
def gF.Ko(j:qV B b)(h:gF b f):∃p,b.cv[f.dV.toNat]? =some p/\dm b f.dV=p/\QT B b p/\p.bn[f.pc.toNat]? =some (fJ b f)/\iu b p f.pc.toNat (fJ b f):=by
 let⟨p,c⟩:=cg b.cv f.dV.toNat (oh h.dV);have e:dm b f.dV=p:=by simp[dm,c]
 have g:=j.de p (aq c);have k:=h.pc;rw[e]at k;let⟨i,a⟩:=cg p.bn f.pc.toNat;have d:fJ b f=i:=by simp[fJ,e,a]
 exact⟨p,c,e,g,d▸a,d▸g.de _ _ a⟩
def fB.iP(h:fB B b s)(A:s.cW=3){d:List be}{g:be}(j:s.aj=d++[f]){c:List bS}{bB:List Int}(o:gF b g)(hd:g.dst=f.dst)
 (r:fQ c (eA (d++[g])))(w:nv c)(t:∀a,fA c a->holds (d++[g]) a=1)(x:∀a,¬fA c a->holds (d++[g]) a=0)(v:∀n∈bB,gY n){bL:Int}(n:s.bL<=bL/\bL<=s.eD):
 fB B b {s with heap:=c,bB:=bB,bL:=bL,aj:=d++[g]}:=by
 have z:=h.bL
 have m:=h.depth
 rw[j]at m
 refine⟨h.eS,h.cW,⟨λi=>by simp at i;omega,sx⟩,h.value,h.td,h.eD,⟨by simp only[];omega,n.2⟩,by simp at m⊢;omega,v,r,w,λq a=>?_,λq a=>?_,λl p q c a=>?_,t,x⟩
 .rcases List.mem_append.1 a with a|a
  .exact h.aj q (by rw[j];exact bu _ a)
  .simp at a;subst a;exact o
 .have e:=h.first
  rw[j]at e
  cases d with
  |nil=>simp at a;subst a;rw[hd];exact e f aH
  |cons y k=>simp at a;subst a;exact e y aH
 .have k:=h.chain l
  rw[j]at k
  simp only[]at c a
  have u:=ax a
  simp at u
  rw[aw V]at c
  rcases aU (l+1) d.length with e|e
  .rw[aw e]at a
   exact k p q (by rw[aw V];exact c) (by rw[aw e];exact a)
  .rw[aG e]at a
   have i:l+1 -d.length=0:=V
   rw[i]at a;simp at a;subst a
   rw[hd]
   exact k p f (by rw[aw V];exact c) (by rw[aG e,i];rfl)
end
section
variable{h:List bS}{a:Nat}{c d:bS}{w:Int}{e e':Nat->Int}
def fA.ne{b:Nat}(d:b≠a):fA (h.set a c) b<->fA h b:=by unfold fA;rw[gU d]
def fA.Fe(hd:h[a]? =some d):fA (h.set a c) a<->c.aS<0:=by unfold fA;rw[eU hd];simp
def fA.set(hd:h[a]? =some d)(i:0<=d.aS)(j:0<=c.aS)(b:Nat):fA (h.set a c) b<->fA h b:=by
 by_cases g:b=a
 .subst g;rw[fA.Fe hd];refine⟨λk=>V,λ⟨e,f,l⟩=>?_⟩;rw[hd]at f;simp at f;subst f;omega
 .exact fA.ne g
def fA.Uh(e:fA h a):¬ib h a:=λ⟨c,b,g⟩=>by
 let⟨d,hd,f⟩:=e;rw[b]at hd;simp at hd;subst hd;omega
def fA.gE(c:gZ h w)(b:Nat):fA (gE h w) b<->fA h b:=by
 let⟨a,d⟩:=cw c;exact fA.set a V (by simp only[];omega) b
def fA.oO(c:gZ h w)(b:Nat):fA (oO h w) b<->fA h b:=by
 let⟨a,d⟩:=cw c;exact fA.set a V (by simp only[];omega) b
def fA.Qr(c:gZ h w)(b:Nat):fA (h.set (ix w) jT) b<->fA h b:=by
 let⟨a,d⟩:=cw c;exact fA.set a V (by simp[jT]) b
def fA.je:∀(n:Nat)(h:List bS)(i:List Int),IG h+i.length<=n->∀b,fA (je h i) b<->fA h b
 |n,h,[],_,b=>by rw[AG]
 |0,h,w::r,c,b=>by simp at c
 |n+1,h,w::r,c,b=>by
  simp only[aW]at c;rcases gW (gZ h w)with a|a
  .let⟨f,g⟩:=cw a;by_cases d:(aZ h w).aS=1
   .have e:=mh (d:=jT) f;simp only[ak g,jT]at e;simp at e;rw[AH a d,fA.je n _ _ (by simp[jT];omega) b,fA.Qr a]
   .have e:=mh (d:={aZ h w with aS:=(aZ h w).aS -1}) f;simp only[ak g]at e;rw[ak V]at e;rw[vP a d,fA.je n _ _ (by simp only[Go.Proofs.YtdalfjkmdekijaaGreat.gE];omega) b,fA.gE a]
  .rw[vQ a,fA.je n _ _ V b]
def fA.ru{h:List bS}(b:Nat):fA (ru h) b<->fA h b:=by
 have f:=tc h h.length;unfold fA Go.Proofs.YtdalfjkmdekijaaGreat.ru;constructor
 .rintro⟨c,a,d⟩;have:=ax a;rw[eJ]at this;rw[dy V]at a;exact⟨c,a,d⟩
 .rintro⟨c,a,d⟩;refine⟨c,?_,d⟩;rw[dy]
  .exact a
  .exact eT λe=>by have:=ta h h.length b c V (ax a) a;omega
def fQ.oO(c:fQ h e)(f:gZ h w)(i:(aZ h w).aS<999999)(a:∀b,e' b=e b+if b=ix w then 1 else 0):fQ (oO h w) e':=by
 let⟨d,g⟩:=cw f;refine c.JI d g V V (λb=>?_) ?_
 .rw[a];split<;>omega
 .rw[a];have:=c.nn (ix w);split<;>omega
def OW(a:gZ h w){v:Int}(d:1000<=v):(aZ (oO h w) v).aS=(aZ h v).aS+(if v=w then 1 else 0):=by
 let⟨c,f⟩:=cw a;unfold oO;by_cases e:v=w
 .subst e;rw[ak rfl];conv=>lhs;unfold aZ
  rw[eU c];rfl
 .rw[ae e];conv=>lhs;unfold aZ
  rw[gU (λb=>e (Qt d a.1 b))];simp[aZ]
def ib.oO{h:List bS}{w:Int}(a:gZ h w)(b:Nat):ib (oO h w) b<->ib h b:=by
 let⟨c,d⟩:=cw a;by_cases e:b=ix w
 .subst e;unfold Go.Proofs.YtdalfjkmdekijaaGreat.oO;rw[ib.Fe c];exact⟨λ_=>a.2,λ_=>by simp only[];omega⟩
 .exact ib.ne e
def iz(d:1000<=w)(r:List Int)(b:Nat):eK (w::r) b=(if b=ix w then 1 else 0)+eK r b:=by
 simp only[eK];congr 1;have e:=iC d;by_cases a:b=ix w
 .subst a;rw[ak e.symm,ak rfl]
 .rw[ae a,ae (λc=>a (by rw[c,jv]))]
def fQ.kU:∀(a:List Int)(h:List bS)(e e':Nat->Int),fQ h e->(∀w∈a,gZ h w/\(aZ h w).aS+eK a (ix w)<=999999)->(∀b,e' b=e b+eK a b)->fQ (kU h a) e'/\(∀b,fA (kU h a) b<->fA h b)/\(kU h a).length=h.length
 |[],h,e,e',i,_,g=>⟨i.congr λb=>by rw[g];simp[eK],λ_=>CI,rfl⟩
 |w::a,h,e,e',i,k,g=>by
  let⟨c,p⟩:=k w aX;rw[iz c.1,ak rfl]at p;have:=iA a (ix w);let⟨m,n,o⟩:=fQ.kU a (Go.Proofs.YtdalfjkmdekijaaGreat.oO h w) (λb=>e b+if b=ix w then 1 else 0) e' (i.oO c V λb=>rfl) (λv q=>by
   let⟨d,j⟩:=k v (ah _ q);refine⟨⟨d.1,(ib.oO c _).2 d.2⟩,?_⟩;rw[OW c d.1];rw[iz c.1]at j;split
   .rename_i f;subst f;rw[ak rfl]at j;omega
   .rename_i f;rw[ae (λl=>f (Qt d.1 c.1 l))]at j;omega) (λb=>by rw[g,iz c.1];omega)
  refine⟨m,λb=>by rw[Go.Proofs.YtdalfjkmdekijaaGreat.kU,n,fA.oO c],by rw[Go.Proofs.YtdalfjkmdekijaaGreat.kU,o];simp[Go.Proofs.YtdalfjkmdekijaaGreat.oO]⟩
def nk{l:List Int}:w∈rc l<->w∈l/\1000<=w:=by simp[rc]
def fQ.apart{h:List bS}{e e':Nat->Int}(j:fQ h e){w:Int}(o:gZ h w)(H:0<e (ix w))(t:(aZ h w).aS=1\/nW h (aZ h w).aL)
 (A:∀b,e' b=e b -(if b=ix w then 1 else 0)+eK (aZ h w).aL b)(K:nv h):fQ (apart h w) e'/\(∀b,fA (apart h w) b<->fA h b)/\nv (apart h w):=by
 let⟨g,J⟩:=cw o
 unfold Go.Proofs.YtdalfjkmdekijaaGreat.apart
 by_cases r:(aZ h w).aS=1
 .rw[ak r]
  exact⟨(j.Qr g r H (c':=jT) bh bh rfl (by simp[jT]) (by simp[jT]) (λ_=>rfl) A).ru,λb=>by rw[fA.ru,fA.Qr o],Gg _⟩
 .rw[ae r]
  have t:nW h (aZ h w).aL:=by rcases t with m|m;exact absurd m r;exact m
  have Q:=(j.cell _ (aq g)).hi
  have I:fQ (Go.Proofs.YtdalfjkmdekijaaGreat.gE h w) (λb=>e b -if b=ix w then 1 else 0):=j.JI g J V V (λb=>by split<;>omega) bN
  have u:∀b,ib h b->ib (Go.Proofs.YtdalfjkmdekijaaGreat.gE h w) b:=λb f=>by
   by_cases k:b=ix w
   .subst k;unfold Go.Proofs.YtdalfjkmdekijaaGreat.gE;rw[ib.Fe g];simp only[];omega
   .exact(ib.ne k).2 f
  let⟨m,y,z⟩:=fQ.kU (rc (aZ h w).aL) _ _ e' I (λv x=>by
   let⟨s,p⟩:=nk.1 x;have a:=j.field (aq g) s p;refine⟨⟨a.1,u _ a.2⟩,?_⟩;have:=t v s p;rw[uZ];have O:(aZ (Go.Proofs.YtdalfjkmdekijaaGreat.gE h w) v).aS<=(aZ h v).aS:=by
    by_cases k:ix v=ix w
    .have i:=Qt p o.1 k;subst i;unfold Go.Proofs.YtdalfjkmdekijaaGreat.gE;conv=>lhs;unfold aZ
     rw[eU g];show(aZ h v).aS -1<=(aZ h v).aS;omega
    .unfold Go.Proofs.YtdalfjkmdekijaaGreat.gE;conv=>lhs;unfold aZ
     rw[gU k];exact dh _
   omega) (λb=>by rw[A,uZ])
  refine⟨m,λb=>by rw[y,fA.gE o],λc n=>?_⟩
  intro M
  rw[z]at n
  have B:(Go.Proofs.YtdalfjkmdekijaaGreat.gE h w).length=h.length:=by simp[Go.Proofs.YtdalfjkmdekijaaGreat.gE]
  rw[B]at n
  have f:=ax n
  rw[z,B]at f
  let⟨d,hd⟩:=cg h (h.length -1)
  have N:=K d hd
  have G:=j.cell d (aq hd)
  have P:=G.lo
  rcases gW (0<d.aS)with C|C
  .have F:∀(q:List Int)(l:List bS),(∀v∈q,gZ l v)->∀b,ib l b->ib (Go.Proofs.YtdalfjkmdekijaaGreat.kU l q) b:=by
    intro q;induction q with
    |nil=>intro l _ b f;exact f
    |cons v q L=>
     intro l i b f;have a:=i v aX;exact L _ (λE D=>⟨(i E (ah _ D)).1,(ib.oO a _).2 (i E (ah _ D)).2⟩) b ((ib.oO a _).2 f)
   let⟨D,i,E⟩:=F (rc (aZ h w).aL) (Go.Proofs.YtdalfjkmdekijaaGreat.gE h w) (λv x=>by
    let⟨s,p⟩:=nk.1 x;have a:=j.field (aq g) s p;exact⟨a.1,u _ a.2⟩) _ (u _ ⟨d,hd,C⟩)
   rw[n]at i;simp at i;subst i;omega
  .have l:fA h (h.length -1):=⟨d,hd,V⟩
   let⟨D,i,q⟩:=(y (h.length -1)).2 ((fA.gE o _).2 l)
   rw[n]at i;simp at i;subst i;omega
def uQ:∀(h:List bS),fp h<=h.length
 |[]=>ad _
 |c::h=>by have:=uQ h;simp only[fp,aW];split<;>omega
def CU:∀(h:List bS)(c:bS),h[fp h]? =some c->c.aS=0
 |[],c,a=>by simp[fp]at a
 |d::h,c,a=>by
  simp only[fp]at a;split at a
  .rename_i b;simp at a;subst a;exact b
  .exact CU h c (by simpa using a)
def fQ.alloc(k:fQ h e){t:Int}{f:List Int}(s:∀w∈f,pS h w)(m:f.length<=3)(r:0<=t/\t<=99)(n:∀b,eK f b<=e b)
 (l:∀b,e' b=e b -eK f b+if b=fp h then 1 else 0)(u:nv h):
 fQ (lX h (fp h) ⟨1,t,f⟩) e'/\(∀b,fA (lX h (fp h) ⟨1,t,f⟩) b<->fA h b)/\nv (lX h (fp h) ⟨1,t,f⟩):=by
 unfold lX
 have o:¬ib h (fp h):=λ⟨c,a,v⟩=>by have:=CU h c a;omega
 by_cases i:fp h=h.length
 .rw[ak i]
  have q:(h++[⟨1,t,f⟩])[fp h]? =some ⟨1,t,f⟩:=by rw[i];simp
  have p:∀b,b≠fp h->(h++[⟨1,t,f⟩])[b]? =h[b]? :=λb g=>by
   rcases aU b h.length with j|j
   .rw[aw j]
   .rw[bT bN,bT j]
  refine⟨k.make o q p (λb=>by rw[tU];simp[dP]) s m r n l,λb=>?_,λc a=>?_⟩
  .by_cases g:b=fp h
   .rw[g];unfold fA;rw[q,i];simp
   .unfold fA;rw[p b g]
  .simp at a;subst a;simp
 .rw[ae i]
  have q:fp h<h.length:=by have:=uQ h;omega
  let⟨d,hd⟩:=dI q
  have j:=CU h d hd
  have p:=((k.cell d (aq hd)).uP V).2.2 j
  refine⟨k.make o (eU hd) (λb g=>gU g) (λb=>by rw[yW _ hd,p];simp[eK]) s m r n l,λb=>fA.set hd V aH b,λc a=>?_⟩
  rw[iH]at a
  by_cases g:h.length -1=fp h
  .rw[g,eU hd]at a;simp at a;subst a;simp
  .rw[gU g]at a;exact u c a
end
section
variable{b:cp}{w:Int}{s:St}{f g:be}
variable{B:Int}
def Ec{b:cp}{x:Instr}:∀{l:List Int}{k:Nat}{r:Int},r∈jA b x k l->r∈l
 |[],k,r,h=>by simp[jA]at h
 |y::l,k,r,h=>by
  simp only[jA]at h;split at h
  .exact ah _ (Ec h)
  .rcases List.mem_cons.1 h with rfl|h
   .exact aX
   .exact ah _ (Ec h)
def Nk{x:Instr}{r:Int}(h:r∈dF b x):r∈x.args:=by
 unfold dF at h;split at h
 .exact h
 split at h
 .exact cX h
 split at h
 .exact Ec h
 .simp at h
def yG{a:List bo}(h:dH a)(c:Int):(bZ a c).length<=3:=by
 unfold bZ;split
 .cases g:(eI a)[c.toNat]? with
  |none=>simp
  |some f=>
   have d:=aq g;unfold eI at d;let⟨e,hd,b⟩:=List.mem_flatMap.1 d;let⟨k,i⟩:=List.mem_iff_getElem?.1 hd;have:=(h.de k e i).gS (List.length_pos_of_mem b);exact(this.2.2.2 f b).1
 .simp
def gF.put{b:cp}{g:be}(h:gF b g){r w o:Int}(i:0<=r)(f:gY w\/1000<=w)(d:0<=o)(e:0<o->1000<=w):gF b (g.put r w o):=by
 refine⟨h.dV,h.pc,by simp only[be.put,kd];exact h.lr,by simp only[be.put,kd];exact h.lo,h.lh,λy a=>?_,λk q y c a=>?_,h.bA⟩
 .rcases sF a with rfl|a
  .exact f
  .exact h.Sc y a
 .simp only[be.put]at c a;rw[Fh]at c a;have:=h.lr;have:=h.lo;split at c<;>split at a
  .simp at c a;subst c;subst a;exact⟨d,e⟩
  .omega
  .omega
  .exact h.ba k q y c a
def Hb(w:Int):0<=jw w:=by unfold jw;split<;>omega
def Db(h:0<jw w):1000<=w:=by unfold jw at h;split at h<;>omega
def vZ(w:Int)(b:Nat):(if w=1000+(b:Int)then jw w else 0)=eK [w] b:=by
 simp only[eK,jw];split
 .rw[ak V];rfl
 .rfl
def GF(n:Int):gY (JZ n):=by unfold JZ gY;split<;>(try split)<;>omega
def Pq(c a b:Int):gY (T0 c a b):=by
 unfold T0;split
 .exact GF _
 split
 .exact GF _
 split
 .exact GF _
 split<;>(unfold gY;omega)
def mI(df:List Int):∀(a:List Int)(k:Nat),(iB df k a).length=a.length
 |[],k=>rfl
 |w::a,k=>by simp only[iB,aW,mI df a]
def Iu(df:List Int):∀(b:List Int)(k j:Nat)(o w:Int),(iB df k b)[j]? =some o->b[j]? =some w->0<=o/\(0<o->1000<=w)
 |[],k,j,o,w,_,h=>by simp at h
 |v::b,k,0,o,w,a,c=>by
  simp[iB]at a c;subst c;split at a
  .subst a;omega
  .subst a;exact⟨Hb _,Db⟩
 |v::b,k,j+1,o,w,a,c=>Iu df b (k+1) j o w (by simpa[iB]using a) (by simpa using c)
def lR(n:Nat):(gB n).length=n:=by simp[gB]
def pU{n:Nat}(h:w∈gB n):w=0:=VC h
def tR{g j:Int}{d:List Int}{p:cZ}(m:qV B b)(l:0<=g)(h:b.cv[g.toNat]? =some p)(q:d.length=p.params.length)(n:∀w∈d,gY w\/1000<=w):gF b (cK b g j d):=by
 have e:dm b g=p:=by simp[dm,h]
 have i:=m.de p (aq h);have t:=i.av;have r:=i.len;have s:=ax h;refine⟨⟨l,by simp only[cK];omega⟩,⟨by simp[cK],by simp only[cK,e];omega⟩,?_,?_,?_,λw a=>?_,λk o w c a=>?_,λw a=>Or.inl (pU a)⟩
 .simp only[cK,e,aT,lR];omega
 .simp only[cK,e,aT,lR,mI];omega
 .simp only[cK,e,lR];omega
 .simp only[cK]at a;rcases List.mem_append.1 a with a|a
  .exact n w a
  .rw[pU a];exact Or.inl (by unfold gY;omega)
 .simp only[cK]at c a;rcases aU k d.length with f|f
  .rw[aw (by rw[mI];exact f)]at c;rw[aw f]at a;exact Iu _ d 0 k o w c a
  .rw[aG (by rw[mI];exact f)]at c;rw[pU (iV c)];omega
def qx(b:cp)(g d:Int)(a:List Int)(c:Nat):cN (cK b g d a).av (cK b g d a).ba c=cN a (iB (dm b g).df 0 a) c:=by
 simp only[cK];rw[EW _ _ (mI _ _ _).symm,sH (λn e=>pU e)];omega
def oW(b:cp)(g c:Int)(d:List Int)(a:Nat):holds [cK b g c d] a=0:=by
 rw[iE];exact RZ _ _
def G9{b:cp}{d:Instr}(f:be):∀(e:List Int)(k:Nat)(a:Nat),cN (dB f e) (iB (dm b d.bK).df k (dB f e)) a=eK ((jA b d k e).map (aO f.av)) a
 |[],k,a=>by simp[dB,cN,jA,eK]
 |r::h,k,a=>by
  have g:=G9 (b:=b) (d:=d) f h (k+1) a;simp only[dB,cA,iB,cN,jA]at g⊢;rw[g];by_cases c:nN b d k=true
  .rw[ak c];unfold nN at c;rw[ak c];split<;>omega
  .rw[ae c];unfold nN at c;rw[ae c];simp only[cA,eK];have:=vZ (aO f.av r) a;simp only[eK]at this;omega
def Iv:∀(a:List Int)(k:Nat)(b:Nat),cN a (iB [] k a) b=eK a b
 |[],k,b=>by simp[cN,eK]
 |w::a,k,b=>by
  have:=Iv a (k+1) b;have c:=vZ w b;simp only[eK]at c;simp only[iB,cN,eK,this,PT,fq,mH];omega
def fB.pP{e:List bS}{c:List be}(i:fB B b s)(l:s.aj=c++[f])(m:g.bA=f.bA)(j:∀a,fA e a<->fA s.heap a):
 (∀a,fA e a->holds (c++[g]) a=1)/\(∀a,¬fA e a->holds (c++[g]) a=0):=by
 have h:∀a,holds (c++[g]) a=holds s.aj a:=λa=>by rw[l,ez,ez,iE,iE,m]
 exact⟨λa d=>by rw[h];exact i.kJ a ((j a).1 d),λa d=>by rw[h];exact i.mE a λk=>d ((j a).2 k)⟩
def fB.push(h:fB B b s)(D:s.cW=3){d:List be}(e:s.aj=d++[f])(p:gF b g)(hd:0<=g.dst/\g.dst<f.ba.length/\aO f.ba g.dst=0){c:List bS}{bL:Int}
 (r:fQ c (eA (d++[f,g])))(v:nv c)(t:∀a,fA c a->holds (d++[f,g]) a=1)(w:∀a,¬fA c a->holds (d++[f,g]) a=0)(z:bL=s.bL+1)(C:s.bL<s.eD):
 fB B b {s with heap:=c,bL:=bL,aj:=d++[f,g]}:=by
 have A:=h.bL
 have m:=h.depth
 rw[e]at m
 refine⟨h.eS,h.cW,⟨λi=>by simp at i;omega,sx⟩,h.value,h.td,h.eD,⟨by simp only[];omega,by simp only[];omega⟩,by simp at m⊢;omega,h.bB,r,v,λq a=>?_,λq a=>?_,λk x q c a=>?_,t,w⟩
 .rcases List.mem_append.1 a with a|a
  .exact h.aj q (by rw[e];exact bu _ a)
  .simp at a
   rcases a with rfl|rfl
   .exact h.aj _ (by rw[e];simp)
   .exact p
 .have j:=h.first
  rw[e]at j
  cases d with
  |nil=>simp at a;subst a;exact j f aH
  |cons y l=>simp at a;subst a;exact j y aH
 .have l:=h.chain k
  rw[e]at l
  simp only[]at c a
  have i:d++[f,g]=(d++[f])++[g]:=aH
  rw[i]at c a
  have u:=ax a
  simp at u
  rw[aw bN]at c
  rcases aU (k+1) (d++[f]).length with j|j
  .rw[aw j]at a
   exact l x q c a
  .simp at j
   rw[aG bN]at a
   have n:k+1 -(d++[f]).length=0:=bN
   rw[n]at a;simp at a;subst a
   rw[aG V]at c
   have o:k -d.length=0:=V
   rw[o]at c;simp at c;subst c;exact hd
def QB{m:List be}(d:fB B b s)(S:s.cW=3)(p:s.aj=m++[f])
 (N:uh b s f (fJ b f) (dK f.av f.ba (dF b (fJ b f))))(bg:¬(vX (fJ b f).op/\s.bL=s.eD)):
 fB B b (jI b s m f (fJ b f) (dK f.av f.ba (dF b (fJ b f)))):=by
 have J:gF b f:=d.aj f (by rw[p];simp)
 let⟨ac,hp,aB,hP,a2,hI⟩:=J.Ko d.eS
 generalize fJ b f=x at*
 have⟨lr,lo,lh⟩:(f.av.length:Int)=ac.av/\(f.ba.length:Int)=ac.av/\(f.bA.length:Int)=ac.av:=⟨aB▸J.lr,aB▸J.lo,aB▸J.lh⟩
 have am:∀q∈x.args,0<=q/\q<f.av.length:=λq u=>by have:=hI.args q u;omega
 have a0:∀r∈dF b x,0<=r/\r<f.av.length:=λr S=>am r (Nk S)
 have bm:=wO (av:=f.av) (dF b x) f.ba a0 V
 have bl:=qR f.av (dF b x) f.ba
 have bk:=sY (av:=f.av) (dF b x) f.ba
 generalize dK f.av f.ba (dF b x)=ba at*
 have aF:∀E∈m,gF b E:=λE j=>d.aj E (by rw[p];exact bu _ j)
 have an:∀c,0<=eA m c+cN f.av ba c:=λc=>by
  have:=EY aF c;have:=qI (av:=f.av) N.nn c;omega
 have F:fQ s.heap (λc=>eA m c+cN f.av ba c+eK ((dF b x).map (aO f.av)) c):=d.heap.congr λc=>by
  rw[p,fF,j7,bm];omega
 have a9:∀P:Int,0<=P->P<ac.bn.length->gF b {f with ba:=ba,pc:=P}:=λP h0 e=>
  ⟨J.dV,⟨h0,by rw[aB];exact e⟩,J.lr,by simp only[bl];exact J.lo,J.lh,J.Sc,λy ab w X n=>by
   let⟨E,j,o⟩:=bk y ab X;have C:=J.ba y E w j n;exact⟨N.nn ab (iV X),λk=>C.2 V⟩,J.bA⟩
 have bn:=J.pc
 rw[aB]at bn
 have a7:x.op≠23->x.op≠24->f.pc+1<ac.bn.length:=λe C=>by
  rcases gW (f.pc+1<ac.bn.length)with A|A
  .exact A
  .have U:f.pc.toNat=ac.bn.length -1:=V;rw[U]at a2;have:=hP.yP x a2;omega
 have hG:x.op≠23->x.op≠24->gF b {f with ba:=ba,pc:=f.pc+1}:=λe C=>a9 _ V (a7 e C)
 have ap:∀r:Int,0<=r->r<f.av.length->gY (aO f.av r)\/1000<=aO f.av r:=λr h0 e=>J.Sc _ (iL h0 e)
 have a5:∀r:Int,0<=r->r<f.av.length->aO f.av r<1000->gY (aO f.av r):=λr h0 e C=>by rcases ap r h0 e with A|A;exact A;omega
 have ah:=hI.dst
 have a3:jD x.op->aO ba x.dst=0:=λO=>by
  have e:=N.dst O;have C:=N.nn _ (iL (l:=ba) ah.1 V);omega
 have bp:∀r∈dF b x,pS s.heap (aO f.av r):=λr a_=>by
  have bb:=a0 r a_;rcases ap r bb.1 bb.2 with A|A
  .exact Or.inl A
  .refine Or.inr ⟨A,F.lv _ ?_⟩;have:=an (ix (aO f.av r));have:=tS (l:=(dF b x).map (aO f.av)) (f:=ix (aO f.av r)) (by rw[iC A];exact List.mem_map.2 ⟨r,a_,rfl⟩);omega
 have aI:∀(P:Int)(a4:List Int)(w ab:Int),jD x.op->∀c,eA (m++[be.put {f with ba:=ba,pc:=P,bA:=a4} x.dst w ab]) c=eA m c+cN f.av ba c+(if w=1000+(c:Int)then ab else 0):=λP a4 w ab O c=>by
  rw[fF,j7];simp only[be.put];rw[MY ah.1 V V (a3 O)];omega
 have aM:∀(w:Int)(bB:List Int),jD x.op->x.op≠23->x.op≠24->dF b x=[]->(gY w\/1000<=w)->(∀k∈bB,gY k)->fB B b {s with bB:=bB,aj:=m++[be.put {f with ba:=ba,pc:=f.pc+1} x.dst w 0]}:=λw bB O e C v n X=>by
  let⟨z,Q⟩:=d.pP p (g:=be.put {f with ba:=ba,pc:=f.pc+1} x.dst w 0) rfl (λc=>CI);refine d.iP S p (hd:=rfl) ((hG e C).put ah.1 n (dh _) (λA=>V)) (F.congr λc=>?_) d.jc z Q X (bL:=s.bL) ⟨dh _,d.bL.2⟩;rw[aI _ _ _ _ O,v];simp[eK]
 have aP:∀P:Int,0<=P->P<ac.bn.length->dF b x=[]->fB B b {s with aj:=m++[{f with ba:=ba,pc:=P}]}:=λP h0 e v=>by
  let⟨z,Q⟩:=d.pP p (g:={f with ba:=ba,pc:=P}) rfl (λc=>CI);refine d.iP S p (hd:=rfl) (a9 P h0 e) (F.congr λc=>?_) d.jc z Q d.bB (bL:=s.bL) ⟨dh _,d.bL.2⟩;rw[fF,j7,v];simp[eK]
 have o:=hI.op
 unfold kM at o
 unfold jI
 simp only[]
 by_cases e0:x.op=0
 .rw[ak e0]at o⊢
  exact aM _ _ (by unfold jD;omega) V V (by simp[dF,e0]) (Or.inl o.2) d.bB
 rw[ae e0]at o⊢
 by_cases e1:x.op=1\/x.op=2\/x.op=3\/x.op=4
 .rw[ak e1]
  exact aM _ _ (by unfold jD;omega) V V (by unfold dF;rw[ae V,ae V,ae V]) (Or.inl (Pq _ _ _)) d.bB
 rw[ae e1]
 have ar:1<=x.args.length->0<=aO x.args 0/\aO x.args 0<f.av.length:=λe=>am _ (iL V V)
 by_cases e5:x.op=5
 .rw[ak e5]
  rw[ae V,ak V]at o
  have u:=ar V
  have az:gY (aO f.av (aO x.args 0)):=a5 _ u.1 u.2 (N.pA V _ (iL V V))
  refine aM _ _ (by unfold jD;omega) V V (by simp[dF,e5]) (Or.inl az) λk G=>?_
  rcases List.mem_append.1 G with G|G
  .exact d.bB k G
  .simp at G;subst G;exact az
 rw[ae e5]
 have bc:(dF b x=x.args)->∀w∈dB f x.args,pS s.heap w:=λv w n=>by
  obtain⟨r,Z,rfl⟩:=List.mem_map.1 n;exact bp r (v▸Z)
 have aW:∀aC,dF b x=x.args->x.op≠23->x.op≠24->jD x.op->x.args.length<=3->0<=aC/\aC<=99->fB B b {s with heap:=lX s.heap (fp s.heap) ⟨1,aC,dB f x.args⟩,aj:=m++[be.put {f with ba:=ba,pc:=f.pc+1} x.dst (1000+fp s.heap) 1]}:=λaC v e C O A aT=>by
  let⟨T,k2,k3⟩:=F.alloc (t:=aC) (f:=dB f x.args) (e':=eA (m++[be.put {f with ba:=ba,pc:=f.pc+1} x.dst (1000+fp s.heap) 1])) (bc v) (by simpa[dB]using A) aT (λc=>by rw[v];have:=an c;simp only[dB];omega) (λc=>by
   rw[aI _ _ _ _ O,v];simp only[dB];have:(if(1000+(fp s.heap:Int))=1000+(c:Int)then(1:Int)else 0)=if c=fp s.heap then 1 else 0:=by
    by_cases k:c=fp s.heap
    .rw[ak k,ak V]
    .rw[ae k,ae V]
   rw[this];omega) d.jc
  let⟨z,Q⟩:=d.pP p (g:=be.put {f with ba:=ba,pc:=f.pc+1} x.dst (1000+fp s.heap) 1) rfl k2;exact d.iP S p (hd:=rfl) ((hG e C).put ah.1 (Or.inr V) V (λ_=>V)) T k3 z Q d.bB (bL:=s.bL) ⟨dh _,d.bL.2⟩
 have bq:(eI b.bt).length<=12:=by
  have:=sD d.eS.pB.types b.bt.length;rw[nJ _ _ (ad _)]at this;exact this
 have bs:=d.eS.pB.len
 by_cases R:x.op=6
 .rw[ak R]
  rw[ae V,ae V,ak R]at o
  have v:dF b x=x.args:=by unfold dF;rw[ak V]
  have O:jD x.op:=by unfold jD;omega
  have aa:x.args.length<=3:=by rw[o.2.1];exact yG d.eS.pB.types _
  split
  .rename_i aE
   have K:0<=x.bW -1/\x.bW -1<f.bA.length:=V
   have hv:=J.bA _ (iL (l:=f.bA) K.1 K.2)
   have L:1000<=aO f.bA (x.bW -1):=V
   have aD:0<holds s.aj (ix (aO f.bA (x.bW -1))):=by
    rw[p,ez,iE];have:=uT m (ix (aO f.bA (x.bW -1)));have:=tS (l:=f.bA) (f:=ix (aO f.bA (x.bW -1))) (by rw[iC L];exact iL K.1 K.2);omega
   have Y:fA s.heap (ix (aO f.bA (x.bW -1))):=eT λG=>by have:=d.mE _ G;omega
   have al:=d.kJ _ Y
   let⟨W,hd,au⟩:=Y
   have ay:∀c,eK W.aL c=0:=λc=>nj λn=>by
    have:=((F.cell W (aq hd)).uP V).2.1 _ n;omega
   have T:=F.make (v:=x.bK) (c:=dB f x.args) (e':=eA (m++[be.put {f with ba:=ba,pc:=f.pc+1,bA:=iF f.bA (x.bW -1) 0} x.dst (aO f.bA (x.bW -1)) 1])) (f:=ix (aO f.bA (x.bW -1))) (g:=s.heap.set (ix (aO f.bA (x.bW -1))) ⟨1,x.bK,dB f x.args⟩)
    (fA.Uh ⟨W,hd,au⟩) (eU hd) (λc k=>gU k) (λc=>by rw[yW _ hd,ay];simp only[];omega) (bc v) (by simpa[dB]using aa) V (λc=>by rw[v];have:=an c;simp only[dB];omega) (λc=>by
     rw[aI _ _ _ _ O,v];simp only[dB];have:(if aO f.bA (x.bW -1)=1000+(c:Int)then(1:Int)else 0)=if c=ix (aO f.bA (x.bW -1))then 1 else 0:=by
      by_cases k:c=ix (aO f.bA (x.bW -1))
      .rw[ak k,ak (by rw[k,iC L])]
      .rw[ae k,ae (λI=>k (by rw[I,jv]))]
     rw[this];omega)
   have aA:∀c,eK (iF f.bA (x.bW -1) 0) c=eK f.bA c -(if c=ix (aO f.bA (x.bW -1))then 1 else 0):=by
    intro c;have ai:∀(D:List Int)(y:Nat)(w:Int),D[y]? =some w->eK (D.set y 0) c=eK D c -(if w=1000+(c:Int)then 1 else 0):=by
     intro D;induction D with
     |nil=>intro y w z;simp at z
     |cons af D ih=>
      intro y w z;cases y with
      |zero=>simp at z;subst z;simp only[iR,eK];rw[ae V];omega
      |succ y=>have:=ih y w (by simpa using z);simp only[iQ,eK,this];omega
    rw[iF,ai _ _ _ (pJ K.1 K.2)];by_cases k:c=ix (aO f.bA (x.bW -1))
    .rw[ak k,ak (by rw[k,iC L])]
    .rw[ae k,ae (λI=>k (by rw[I,jv]))]
   have M:∀c,holds (m++[be.put {f with ba:=ba,pc:=f.pc+1,bA:=iF f.bA (x.bW -1) 0} x.dst (aO f.bA (x.bW -1)) 1]) c=holds s.aj c -(if c=ix (aO f.bA (x.bW -1))then 1 else 0):=λc=>by
    rw[p,ez,ez,iE,iE];simp only[be.put];rw[aA];omega
   have ao:gF b {f with ba:=ba,pc:=f.pc+1,bA:=iF f.bA (x.bW -1) 0}:=by
    have e:=hG V V;exact⟨e.dV,e.pc,e.lr,e.lo,by simp only[kd];exact e.lh,e.Sc,e.ba,λw n=>by rcases sF n with n|n;exact Or.inl n;exact e.bA w n⟩
   refine d.iP S p (hd:=rfl) (ao.put ah.1 (Or.inr L) V (λ_=>L)) T ?_ (λq u=>?_) (λq u=>?_) d.bB (bL:=s.bL) ⟨dh _,d.bL.2⟩
   .intro ag H
    rw[iH]at H
    by_cases k:s.heap.length -1=ix (aO f.bA (x.bW -1))
    .rw[k,eU hd]at H;simp at H;subst H;simp
    .rw[gU k]at H;exact d.jc ag H
   .rw[M]
    by_cases k:q=ix (aO f.bA (x.bW -1))
    .subst k;rw[fA.Fe hd]at u;simp at u
    .rw[ae k];rw[fA.ne k]at u;have:=d.kJ q u;omega
   .rw[M]
    by_cases k:q=ix (aO f.bA (x.bW -1))
    .subst k;rw[ak rfl];omega
    .rw[ae k];rw[fA.ne k]at u;have:=d.mE q u;omega
  .exact aW _ v V V O aa V
 rw[ae R]
 by_cases Y:x.op=10
 .rw[ak Y]
  rw[ae V,ae V,ae R,ae V,ak Y]at o
  obtain⟨⟨E,aJ,ao,aK⟩,_⟩:=o
  have A:=(d.eS.pB.de E (aq ao)).1
  have:=ax ao
  exact aW _ (by unfold dF;rw[ak V]) V V (by unfold jD;omega) V (by unfold gA;omega)
 rw[ae Y]
 by_cases aD:x.op=14
 .rw[ak aD]
  rw[ae V,ak V]at o
  have u:=ar V
  have v:dF b x=[]:=by simp[dF,aD]
  let⟨G,W⟩:=N.Zj aD
  let⟨z,Q⟩:=d.pP p (g:={f with ba:=iF ba (aO x.args 0) (aO ba (aO x.args 0)+1),pc:=f.pc+1}) rfl (λc=>fA.oO G c)
  have e:=hG V V
  refine d.iP S p (hd:=rfl) (g:={f with ba:=iF ba (aO x.args 0) (aO ba (aO x.args 0)+1),pc:=f.pc+1}) ⟨e.dV,e.pc,e.lr,by simp only[kd];exact e.lo,e.lh,e.Sc,λy ab w X n=>?_,e.bA⟩ (F.oO G W λc=>?_) ?_ z Q d.bB (bL:=s.bL) ⟨dh _,d.bL.2⟩
  .simp only[]at X n
   rw[Fh]at X
   split at X
   .rename_i K
    simp at X
    have U:aO f.av (aO x.args 0)=w:=by rw[aO,jk,<-K.1,n];rfl
    have:=N.nn _ (iL (l:=ba) u.1 V)
    have:=G.1
    exact⟨V,λ_=>V⟩
   .exact e.ba y ab w X n
  .rw[fF,j7,v]
   simp only[]
   rw[G6 u.1 u.2 V]
   have K:=iC G.1
   simp only[fe,eK]
   by_cases k:c=ix (aO f.av (aO x.args 0))
   .rw[ak k,ak (by rw[k,K])];omega
   .rw[ae k,ae (λI=>k (by rw[I,jv]))];omega
  .let⟨H,aA⟩:=cw G
   intro ag L
   unfold oO at L
   rw[iH]at L
   by_cases k:s.heap.length -1=ix (aO f.av (aO x.args 0))
   .rw[k,eU H]at L;simp at L;subst L;simp only[];omega
   .rw[gU k]at L;exact d.jc ag L
 rw[ae aD]
 have aN:x.args.length=1->x.args=[aO x.args 0]:=λe=>by
  cases hx:x.args with
  |nil=>rw[hx]at e;simp at e
  |cons af D=>cases D with
   |nil=>rfl
   |cons a8 D=>rw[hx]at e;simp at e
 by_cases aX:x.op=15
 .rw[ak aX]
  rw[ae V,ak V]at o
  have v:dF b x=[aO x.args 0]:=by unfold dF;rw[ak V];exact aN V
  rw[v]at F
  have T:=fQ.je _ s.heap [aO f.av (aO x.args 0)] (λc=>eA m c+cN f.av ba c) (ad _) (F.congr λc=>rfl) an
  let⟨z,Q⟩:=d.pP p (g:={f with ba:=ba,pc:=f.pc+1}) rfl (λc=>(fA.ru (h:=je s.heap [aO f.av (aO x.args 0)]) c).trans (fA.je _ _ _ (ad _) c))
  exact d.iP S p (hd:=rfl) (hG V V) (T.ru.congr λc=>by rw[fF,j7]) (Gg _) z Q d.bB (bL:=s.bL) ⟨dh _,d.bL.2⟩
 rw[ae aX]
 by_cases W:x.op=16\/x.op=17
 .rw[ak W]
  rw[ae V,ae V,ae R,ae V,ae Y,ak W]at o
  have u:=ar V
  have v:dF b x=[aO x.args 0]:=by
   unfold dF;rw[ae V,ak W];cases hx:x.args with
   |nil=>rw[hx]at o;simp at o
   |cons af D=>rfl
  let⟨G,aL,aQ,aY⟩:=N.TV W
  let⟨H,aA⟩:=cw G
  have aR:∀r∈x.args.drop 1,0<=r/\r<ba.length/\1000<=aO f.av r:=λr Z=>by
   have e:=am r (Zb Z);have C:aO f.av r∈rc (aZ s.heap (aO f.av (aO x.args 0))).aL:=by rw[aL];exact List.mem_map.2 ⟨r,Z,rfl⟩
   exact⟨e.1,V,(nk.1 C).2⟩
  have e:=hG V V
  have aa:gF b {f with ba:=ft ba (x.args.drop 1),pc:=f.pc+1}:=⟨e.dV,e.pc,e.lr,by simp only[tL];exact e.lo,e.lh,e.Sc,JW (av:=f.av) _ ba aR e.ba,e.bA⟩
  have a6:∀c,cN f.av (ft ba (x.args.drop 1)) c=cN f.av ba c+eK (aZ s.heap (aO f.av (aO x.args 0))).aL c:=λc=>by
   rw[Er (av:=f.av) _ _ (λr Z=>oh (aR r Z)) V,<-uZ (aZ s.heap _).aL,aL];rfl
  have ay:0<eA m (ix (aO f.av (aO x.args 0)))+cN f.av ba (ix (aO f.av (aO x.args 0)))+eK ((dF b x).map (aO f.av)) (ix (aO f.av (aO x.args 0))):=by
   rw[v];have:=an (ix (aO f.av (aO x.args 0)));simp only[cA,fe,iz G.1,ak,eK];omega
  have au:∀c,eA m c+cN f.av (ft ba (x.args.drop 1)) c=(eA m c+cN f.av ba c+eK ((dF b x).map (aO f.av)) c) -(if c=ix (aO f.av (aO x.args 0))then 1 else 0)+eK (aZ s.heap (aO f.av (aO x.args 0))).aL c:=λc=>by
   rw[a6,v];simp only[cA,fe,iz G.1,eK];omega
  split
  .rename_i al
   have aV:=aY al.2
   have T:=F.Qr H al.1 ay (c':=⟨-1,0,gB (aZ s.heap (aO f.av (aO x.args 0))).aL.length⟩) aH aH rfl (λw n=>pU n) (by simp only[lR];exact(F.cell _ (aq H)).fl) (sx) (e':=eA (m++[{f with ba:=ft ba (x.args.drop 1),pc:=f.pc+1,bA:=iF f.bA (aO x.args 0) (aO f.av (aO x.args 0))}])) (λc=>by rw[fF,j7];exact au c)
   have ai:∀(c:Nat)(w:Int)(D:List Int)(y:Nat),D[y]? =some 0->eK (D.set y w) c=eK D c+(if w=1000+(c:Int)then 1 else 0):=by
    intro c w D;induction D with
    |nil=>intro y z;simp at z
    |cons af D ih=>
     intro y z;cases y with
     |zero=>simp at z;subst z;simp only[iR,eK];split<;>simp_all<;>omega
     |succ y=>have:=ih y (by simpa using z);simp only[iQ,eK,this];omega
   have aS:aO x.args 0<f.bA.length:=V
   have M:∀c,holds (m++[{f with ba:=ft ba (x.args.drop 1),pc:=f.pc+1,bA:=iF f.bA (aO x.args 0) (aO f.av (aO x.args 0))}]) c=holds s.aj c+(if c=ix (aO f.av (aO x.args 0))then 1 else 0):=λc=>by
    rw[p,ez,ez,iE,iE];have aE:=pJ (l:=f.bA) u.1 aS;rw[aV]at aE;simp only[iF];rw[ai c _ _ _ aE];by_cases k:c=ix (aO f.av (aO x.args 0))
    .rw[ak k,ak (by rw[k,iC G.1])];omega
    .rw[ae k,ae (λI=>k (by rw[I,jv]))];omega
   have a1:¬fA s.heap (ix (aO f.av (aO x.args 0))):=λz=>z.Uh G.2
   refine d.iP S p (hd:=rfl) (g:={f with ba:=ft ba (x.args.drop 1),pc:=f.pc+1,bA:=iF f.bA (aO x.args 0) (aO f.av (aO x.args 0))}) ⟨aa.dV,aa.pc,aa.lr,aa.lo,by simp only[kd];exact aa.lh,aa.Sc,aa.ba,λw n=>?_⟩ T ?_ (λq K=>?_) (λq K=>?_) d.bB (bL:=s.bL) ⟨dh _,d.bL.2⟩
   .rcases sF n with n|n
    .rw[n];exact Or.inr G.1
    .exact J.bA w n
   .intro ag L
    rw[iH]at L
    by_cases k:s.heap.length -1=ix (aO f.av (aO x.args 0))
    .rw[k,eU H]at L;simp at L;subst L;simp
    .rw[gU k]at L;exact d.jc ag L
   .rw[M]
    by_cases k:q=ix (aO f.av (aO x.args 0))
    .rw[ak k,k,d.mE _ a1];rfl
    .rw[ae k];rw[fA.ne k]at K;have:=d.kJ q K;omega
   .rw[M]
    by_cases k:q=ix (aO f.av (aO x.args 0))
    .subst k;rw[fA.Fe H]at K;simp at K
    .rw[ae k];rw[fA.ne k]at K;have:=d.mE q K;omega
  .let⟨T,k2,k3⟩:=F.apart G ay aQ (e':=eA (m++[{f with ba:=ft ba (x.args.drop 1),pc:=f.pc+1}])) (λc=>by rw[fF,j7];exact au c) d.jc
   let⟨z,Q⟩:=d.pP p (g:={f with ba:=ft ba (x.args.drop 1),pc:=f.pc+1}) rfl k2
   exact d.iP S p (hd:=rfl) aa T k3 z Q d.bB (bL:=s.bL) ⟨dh _,d.bL.2⟩
 rw[ae W]
 by_cases aY:x.op=18
 .rw[ak aY]
  rw[ae V,ak V]at o
  have u:=ar V
  have v:dF b x=[aO x.args 0]:=by unfold dF;rw[ak V];exact aN V
  have O:jD x.op:=by unfold jD;omega
  let⟨z,Q⟩:=d.pP p (g:=be.put {f with ba:=ba,pc:=f.pc+1} x.dst (aO f.av (aO x.args 0)) (jw (aO f.av (aO x.args 0)))) rfl (λc=>CI)
  refine d.iP S p (hd:=rfl) ((hG V V).put ah.1 (ap _ u.1 u.2) (Hb _) Db) (F.congr λc=>?_) d.jc z Q d.bB (bL:=s.bL) ⟨dh _,d.bL.2⟩
  rw[aI _ _ _ _ O,v,vZ];rfl
 rw[ae aY]
 by_cases L:x.op=19
 .rw[ak L]
  rw[ae V,ae V,ae R,ae V,ae Y,ae W,ak L]at o
  let⟨G,k⟩:=N.load L
  let⟨H,aA⟩:=cw G
  refine aM _ _ (by unfold jD;omega) V V (by simp[dF,L]) ?_ d.bB
  rcases((F.cell _ (aq H)).pG aA).1 _ (iL o.2.1 k)with C|C
  .exact Or.inl C
  .exact Or.inr C.1
 rw[ae L]
 by_cases aa:x.op=20
 .rw[ak aa]
  rw[ae V,ae V,ae R,ae V,ae Y,ae W,ae L,ak aa]at o
  have:=a7 V V
  exact aP _ (by split<;>omega) (by split<;>omega) (by simp[dF,aa])
 rw[ae aa]
 by_cases al:x.op=21
 .rw[ak al]
  rw[ae V,ae V,ae R,ae V,ae Y,ae W,ae L,ae aa,ae V,ak al]at o
  let⟨G,aT⟩:=N.Ok al
  have ag:wQ (bY b.bt x.bK) (aZ s.heap (aO f.av (aO x.args 0))).mK<(bY b.bt x.bK).length:=PU ⟨_,aT,aH⟩
  let⟨ai,k⟩:=o.2.2
  have:=k _ (iL (l:=x.di) (i:=(wQ (bY b.bt x.bK) (aZ s.heap (aO f.av (aO x.args 0))).mK:Nat)) V V)
  exact aP _ V V (by simp[dF,al])
 rw[ae al]
 by_cases au:x.op=22
 .rw[ak au]
  rw[ae V,ae V,ae R,ae V,ae Y,ae W,ae L,ae aa,ak au]at o
  exact aP _ V V (by simp[dF,au])
 rw[ae au]
 have bd:∀w∈dB f x.args,gY w\/1000<=w:=λw n=>by
  obtain⟨r,Z,rfl⟩:=List.mem_map.1 n;exact ap r (am r Z).1 (am r Z).2
 have aS:vX x.op->s.bL<s.eD:=λH=>by
  have:=d.bL;have:s.bL≠s.eD:=λU=>bg ⟨H,U⟩;omega
 have a6:∀(hp:List bS),s.bL<s.eD->x.op≠23->x.op≠24->∀(g:be),gF b g->jD x.op->g.dst=x.dst->fQ hp (eA (m++[{f with ba:=ba,pc:=f.pc+1},g]))->nv hp->(∀c,fA hp c<->fA s.heap c)->(∀c,holds [g] c=0)->
  fB B b {s with bL:=s.bL+1,heap:=hp,aj:=m++[{f with ba:=ba,pc:=f.pc+1},g]}:=λhp br e C g hg O bi hH hT hK bj=>by
  have a1:=d.bL
  have ay:=d.depth
  rw[p]at ay
  have ee:m++[{f with ba:=ba,pc:=f.pc+1},g]=(m++[{f with ba:=ba,pc:=f.pc+1}])++[g]:=aH
  have M:∀c,holds (m++[{f with ba:=ba,pc:=f.pc+1},g]) c=holds s.aj c:=λc=>by
   rw[ee,ez,bj,p,ez,ez,iE,iE];simp
  refine⟨d.eS,d.cW,⟨λU=>by simp at U;omega,sx⟩,d.value,d.td,d.eD,⟨by simp only[];omega,by simp only[];omega⟩,by simp at ay⊢;omega,d.bB,hH,hT,λE j=>?_,λE j=>?_,λy p1 E k j=>?_,λq u=>?_,λq u=>?_⟩
  .rcases List.mem_append.1 j with j|j
   .exact aF E j
   .simp at j
    rcases j with rfl|rfl
    .exact hG e C
    .exact hg
  .have ai:=d.first
   rw[p]at ai
   cases m with
   |nil=>simp at j;subst j;exact ai f aH
   |cons af ys=>simp at j;subst j;exact ai af aH
  .have ag:=d.chain y
   rw[p]at ag
   simp only[]at k j
   rw[ee]at k j
   have aR:=ax j
   simp at aR
   rw[aw bN]at k
   rcases aU (y+1) (m.length+1)with A|A
   .rw[aw bN]at j
    rw[aw V]at k
    rcases aU (y+1) m.length with h4|h4
    .rw[aw h4]at j
     exact ag p1 E (by rw[aw V];exact k) (by rw[aw h4];exact j)
    .rw[aG h4]at j
     have I:y+1 -m.length=0:=V
     rw[I]at j;simp at j;subst j
     exact ag p1 f (by rw[aw V];exact k) (by rw[aG h4,I];rfl)
   .rw[aG bN]at j
    have I:y+1 -(m++[{f with ba:=ba,pc:=f.pc+1}]).length=0:=bN
    rw[I]at j;simp at j;subst j
    rw[aG V]at k
    have e3:y -m.length=0:=V
    rw[e3]at k;simp at k;subst k
    rw[bi]
    exact⟨ah.1,by simp only[];omega,a3 O⟩
  .rw[M];exact d.kJ q ((hK q).1 u)
  .rw[M];exact d.mE q λA=>u ((hK q).2 A)
 by_cases e9:x.op=9
 .rw[ak e9]
  rw[ae V,ae V,ae R,ak V]at o
  let⟨E,aJ,ao,aK⟩:=o
  have v:dF b x=jA b x 0 x.args:=by unfold dF;rw[ae V,ae V,ak V]
  refine a6 s.heap (aS (Or.inl e9)) V V (cK b x.bK x.dst (dB f x.args)) (tR d.eS aJ ao (by simp[dB,aK]) bd) (by unfold jD;omega) rfl (F.congr λc=>?_) d.jc (λ_=>CI) (oW _ _ _ _)
  rw[fF,v]
  simp only[eA]
  rw[qx,G9];omega
 rw[ae e9]
 by_cases aE:x.op=24
 .rw[ak aE]
  rw[ae V,ae V,ae R,ak V]at o
  let⟨E,aJ,ao,aK⟩:=o
  have v:dF b x=jA b x 0 x.args:=by unfold dF;rw[ae V,ae V,ak V]
  let⟨aL,aV⟩:=N.zero (Or.inl aE)
  have M:∀c,holds (m++[cK b x.bK f.dst (dB f x.args)]) c=holds s.aj c:=λc=>by
   rw[p,ez,ez,oW,iE,nj (λn=>oh (aV _ n))]
  have bf:=aS (Or.inr (Or.inr aE))
  refine d.iP S p (hd:=rfl) (tR d.eS aJ ao (by simp[dB,aK]) bd) (F.congr λc=>?_) d.jc (λq u=>by rw[M];exact d.kJ q u) (λq u=>by rw[M];exact d.mE q u) d.bB (bL:=s.bL+1) V
  rw[fF,j7,qx,G9,v,sH aL];omega
 rw[ae aE]
 by_cases ao:x.op=11
 .rw[ak ao]
  rw[ak V]at o
  have v:dF b x=x.args:=by unfold dF;rw[ak V]
  have bf:x.args=[aO x.args 0,aO x.args 1]:=by
   cases hx:x.args with
   |nil=>rw[hx]at o;simp at o
   |cons af D=>cases D with
    |nil=>rw[hx]at o;simp at o
    |cons a8 D=>cases D with
     |nil=>rfl
     |cons _ _=>rw[hx]at o;simp at o
  have aJ:0<=aO x.args 1/\aO x.args 1<f.av.length:=am _ (iL V V)
  let⟨G,bo,bt,bh,aK,aQ⟩:=N.apply ao
  let⟨H,aA⟩:=cw G
  let⟨E,j⟩:=cg b.cv (((aZ s.heap (aO f.av (aO x.args 0))).mK -gA b).toNat)
  have a8:dm b ((aZ s.heap (aO f.av (aO x.args 0))).mK -gA b)=E:=by simp[dm,j]
  rw[a8]at bh aK
  have D:∀c,eK ((dF b x).map (aO f.av)) c=(if c=ix (aO f.av (aO x.args 0))then 1 else 0)+eK [aO f.av (aO x.args 1)] c:=λc=>by
   rw[v,bf];simp only[cA,fe];rw[iz]
   .rfl
   .exact G.1
  let⟨T,k2,k3⟩:=F.apart G (by simp only[D,ak];have:=an (ix (aO f.av (aO x.args 0)));have:=iA [aO f.av (aO x.args 1)] (ix (aO f.av (aO x.args 0)));omega) aQ
   (e':=eA (m++[{f with ba:=ba,pc:=f.pc+1},cK b ((aZ s.heap (aO f.av (aO x.args 0))).mK -gA b) x.dst ((aZ s.heap (aO f.av (aO x.args 0))).aL++[aO f.av (aO x.args 1)])])) (λc=>by
    rw[fF,D];simp only[eA];rw[qx,a8,List.length_eq_zero_iff.1 aK,Iv,nP];omega) d.jc
  refine a6 _ (aS (Or.inr (Or.inl ao))) V V _ (tR d.eS bo j bN λw n=>?_) (by unfold jD;omega) rfl T k3 k2 (oW _ _ _ _)
  rcases List.mem_append.1 n with n|n
  .rcases((F.cell _ (aq H)).pG aA).1 w n with C|C
   .exact Or.inl C
   .exact Or.inr C.1
  .simp at n;subst n;exact ap _ aJ.1 aJ.2
 rw[ae ao]
 have G:x.op=23:=by
  rw[ae V]at o;by_cases G:x.op=23
  .exact G
  .rw[ae V,ae R,ae V,ae Y,ae W,ae L,ae aa,ae au,ae al]at o;exact o.elim
 rw[ae V,ak V]at o
 have u:=ar V
 have v:dF b x=[aO x.args 0]:=by unfold dF;rw[ak V];exact aN V
 let⟨aL,aV⟩:=N.zero (Or.inr G)
 have aK:∀c,holds [f] c=0:=λc=>by rw[iE];exact nj (λn=>oh (aV _ n))
 split
 .rename_i D
  have aA:m=[]:=List.getLast?_eq_none_iff.1 D
  subst aA
  have aJ:=N.ret G
  have az:=a5 _ u.1 u.2 (by rcases aJ with e|e;(rw[p]at e;simp at e);exact e)
  have a1:=d.bL
  refine⟨d.eS,⟨aH,aH⟩,aH,az,aH,d.eD,d.bL,bN,d.bB,F.congr λc=>?_,d.jc,aH,aH,aH,λq K=>?_,λq K=>?_⟩
  .rw[v,sH aL]
   simp only[eA,cA,fe]
   rw[nj (by simp;have:=az.2;omega)];rfl
  .have e:=d.kJ q K
   rw[p]at e
   have C:=aK q
   simp only[dW]at e
   omega
  .simp[holds]
 .rename_i pf D
  have aA:m=m.dropLast++[pf]:=by
   have aQ:m≠[]:=λU=>by rw[U]at D;simp at D
   rw[mN aQ]at D;simp at D;rw[<-D];exact(iG aQ).symm
  generalize m.dropLast=fs' at aA
  subst aA
  have az:gF b pf:=aF pf aH
  let⟨aJ,a8,bf⟩:=d.chain fs'.length pf f (by rw[p];simp) (by rw[p];simp)
  have bh:f.dst<pf.av.length:=by have:=az.lr;have:=az.lo;omega
  have a1:=d.bL
  have ay:=d.depth
  rw[p]at ay
  have M:∀c,holds (fs'++[pf.put f.dst (aO f.av (aO x.args 0)) (jw (aO f.av (aO x.args 0)))]) c=holds s.aj c:=λc=>by
   rw[p,ez,ez,aK,ez,iE,iE];simp[be.put]
  refine⟨d.eS,d.cW,⟨λU=>by simp at U;omega,sx⟩,d.value,d.td,d.eD,d.bL,by simp at ay⊢;omega,d.bB,F.congr λc=>?_,d.jc,λE j=>?_,λE j=>?_,λy p1 E k j=>?_,λq K=>by rw[M];exact d.kJ q K,λq K=>by rw[M];exact d.mE q K⟩
  .rw[fF,j7,fF,j7,v,sH aL]
   simp only[be.put,cA,fe]
   rw[MY aJ bh a8 bf,vZ];omega
  .rcases List.mem_append.1 j with j|j
   .exact aF E (bu _ j)
   .simp at j;subst j
    exact az.put aJ (ap _ u.1 u.2) (Hb _) Db
  .have ai:=d.first
   rw[p]at ai
   cases fs' with
   |nil=>simp at j;subst j;exact ai pf aH
   |cons af ys=>simp at j;subst j;exact ai af aH
  .have ag:=d.chain y
   rw[p]at ag
   simp only[]at k j
   have aR:=ax j
   simp at aR
   rw[aw V]at k
   have e1:(fs'++[pf]++[f])[y]? =some p1:=by rw[aw bN,aw V];exact k
   rcases aU (y+1) fs'.length with A|A
   .rw[aw A]at j
    exact ag p1 E e1 (by rw[aw bN,aw A];exact j)
   .rw[aG A]at j
    have I:y+1 -fs'.length=0:=V
    rw[I]at j;simp at j;subst j
    exact ag p1 pf e1 (by rw[aw bN,aG A,I];rfl)
def Rw(h:fB B b s):fB B b (oD b s):=by
 unfold oD;by_cases c:s.cW=3
 .rw[ae (by simpa using c)];let⟨j,f,a⟩:=h.split c;have g:s.aj.getLast?=some f:=by rw[a];simp
  have i:s.aj.dropLast=j:=by rw[a];simp
  rw[g,i];simp only[];have d:∀n,1<=n->n<=2->fB B b {s with cW:=n}:=λn l m=>
   ⟨h.eS,⟨by simp only[];omega,by simp only[];omega⟩,⟨λe=>by simp only[]at e;omega,λe=>by simp only[]at e;rw[a]at e;simp at e⟩,h.value,λe=>oh (h.td e),h.eD,h.bL,h.depth,h.bB,h.heap,h.jc,h.aj,h.first,h.chain,h.kJ,h.mE⟩
  split
  .exact d 1 V V
  .rename_i e;split
   .rename_i k;exact QB h c a k e
   .exact d 2 V V
 .rw[ak (by simpa using c)];exact h
end
section
variable{a:cp}
def rem(a:cp):List be->Int
 |[]=>0
 |f::b=>((dm a f.dV).bn.length -f.pc)+rem a b
noncomputable def aC (a:cp):Nat->St->St
 |0,s=>s
 |n+1,s=>aC a n (oD a s)
def Lr(a:cp):∀(n:Nat)(s:St),aC a (n+1) s=oD a (aC a n s)
 |0,s=>rfl
 |n+1,s=>by rw[aC,Lr a n,aC]
def Lp{B:Int}{a:cp}:∀(n:Nat){s:St},fB B a s->fB B a (aC a n s)
 |0,s,h=>h
 |n+1,s,h=>Lp n (Rw h)
def wN{s:St}(h:s.cW≠3):oD a s=s:=by unfold oD;rw[ak h]
def CC{a:cp}:∀(n:Nat){s:St},s.cW≠3->aC a n s=s
 |0,s,_=>rfl
 |n+1,s,h=>by rw[aC,wN h,CC n h]
def lx(a:cp)(eD:Int):St:=⟨3,0,0,eD,[],[],[cK a 0 0 []]⟩
def Lm{B:Int}{eD:Int}(c:qV B a)(n:0<=eD/\eD<=40):fB B a (lx a eD):=by
 have q:=c.pB.len;let⟨p,i⟩:=cg a.cv 0;have l:=c.pB.first p i;have k:=tR (j:=0) (d:=[]) c (dh 0) i (by simp[l.1]) aH;have h:∀f,eA [cK a 0 0 []] f=0:=λf=>by rw[j7,qx];simp[cN]
 refine⟨c,by simp[lx],by simp[lx],by simp[lx,gY],by simp[lx],n,by simp[lx];omega,by simp[lx],by simp[lx],⟨by simp[lx],⟨λ_=>0,by simp[lx]⟩,by simp[lx],λd=>by simp only[lx];rw[h];omega,λd b=>by simp only[lx]at b;rw[h]at b;omega⟩,?_,?_,?_,?_,λd⟨j,e,_⟩=>by simp[lx]at e,λd _=>oW _ _ _ _ _⟩
 .intro j e;simp[lx]at e
 .intro g b;simp[lx]at b;subst b;exact k
 .intro g b;simp[lx]at b;subst b;rfl
 .intro r g o b m;simp[lx]at m
end
section
variable{k:Nat}{m:E}
def ly{b:List bo}{d:bo}:Gp b k d<->((yv b.length d.tj/\yv b.length d.to/\d.cons.length<=3/\(0<d.cons.length->d.tj=0/\d.to=0))/\
 (∀h∈d.cons,h.length<=3/\Eh b.length h)/\∀e∈b.take k,¬(d.cons.length=0/\e.cons.length=0/\e.tj=d.tj/\e.to=d.to)):=by
 constructor
 .intro l
  rcases iS d.cons.length with a|a
  .let⟨c,f,g⟩:=l.Ro a
   refine⟨⟨f,g,V,λl=>V⟩,λh m=>?_,λe i j=>c e i j.2⟩
   rw[List.length_eq_zero_iff.1 a]at m;cases m
  .let⟨c,f,g,h⟩:=l.gS a
   exact⟨⟨by unfold yv;omega,by unfold yv;omega,c,λ_=>⟨f,g⟩⟩,h,λe i j=>V⟩
 .rintro⟨⟨c,f,g,h⟩,l,m⟩
  exact⟨λa=>⟨g,(h a).1,(h a).2,l⟩,λa=>⟨λe i j=>m e i ⟨a,j⟩,c,f⟩⟩
def CZ{bt:O}{c:List bo}(hd:bX m bt c):dz cq 140 [O.v bt] m (dH c):=by
 apply xC;simp -zeta only[aE,aD];have v:=hd.len;have an:=hd.cap;refine dit (λaa=>?_) λaa=>?_
 .exact cr (λa=>oh a.len) (J.aF _)
 refine dZ (n:=c.length) V (λk f=>J m f/\∀(j:Nat)(d:bo),j<k->c[j]? =some d->Gp c j d) ⟨J.aF _,aH⟩ ?_;rintro j w al μ hj ⟨H,S⟩ aj
 refine dit (λh1=>?_) λh1=>?_
 .let⟨d,D⟩:=cg c j;let⟨A,F,g0,g1,g2⟩:=(bX.ext H hd).aO D;have ar:=F.len;refine⟨V,V,_,g0,_,g1,A,g2,?_⟩;intro m2 q;have I:J w q:=((J.aF w).aP _).ai (ad _) _ _;have G:∀r∈[w.size],r<q.size:=by simp[q,m2,aA]
  clear_value q;have K:=H.trans I;have i:∀{f:E},J q f->¬Gp c j d->∃M:Bool,vb false=.bool M/\(M=true<->dH c)/\J m f:=λag af=>cr (λa=>af (a.de j d D)) (K.trans ag);refine⟨λf=>J q f/\yv c.length d.tj/\yv c.length d.to/\d.cons.length<=3/\(0<d.cons.length->d.tj=0/\d.to=0),?_,?_⟩
  .refine(oT _ _ _).aI (J.aF _) G λr m4 g N s=>⟨_,rfl,λe=>i s λa=>nb g e (v▸(ly.1 a).1.1),λe=>?_⟩;have p:=yb g e;refine(oT _ _ _).aI s G λr u g t b=>⟨_,rfl,λh=>i b λa=>nb g h (v▸(ly.1 a).1.2.1),λh=>?_⟩;have x:=yb g h;rw[v]at p x;refine dit (λy=>?_) λy=>?_
   .exact i b λa=>by have:=(ly.1 a).1.2.2.1;omega
   refine dit (λz=>?_) λz=>?_
   .refine⟨λl=>?_,λl=>?_⟩
    .simp only[uF]at l;exact i b λa=>l ((ly.1 a).1.2.2.2 V).1
    simp only[ig]at l;refine⟨λo=>?_,λo=>?_⟩
    .simp only[uF]at o;exact i b λa=>o ((ly.1 a).1.2.2.2 V).2
    simp only[ig]at o;exact⟨b,p,x,V,λ_=>⟨l,o⟩⟩
   .exact⟨b,p,x,V,λl=>V⟩
  .rintro m4 ⟨W,ae⟩;have ap:=oF.ext (I.trans W) F;refine dZ (n:=d.cons.length) V (λk f=>J q f/\∀A∈d.cons.take k,A.length<=3/\Eh c.length A) ⟨W,aH⟩ ?_;rintro L u I2 μ2 hi ⟨l,T⟩ ah;refine dit (λN=>?_) λN=>?_
   .let⟨B,o⟩:=cg d.cons L;let⟨P,C,Q⟩:=(oF.ext (I.trans l) F).aO o;have U:=C.len;refine⟨V,V,P,Q,?_⟩;intro x y;have p:J u y:=((J.aF u).aP _).ai (ad _) _ _;have R:∀r∈[u.size,w.size],r<y.size:=by
     have:=l.lt (G w.size aH);simp[y,x,aA];omega
    clear_value y;refine dit (λs=>?_) λs=>?_
    .exact i (l.trans p) λa=>by have:=((ly.1 a).2.1 B (aq o)).1;omega
    exact(uU (C.ext p) _).aI (J.aF _) R λr z g e t=>⟨_,rfl,λb=>i ((l.trans p).trans e) λa=>nb g b (v▸((ly.1 a).2.1 B (aq o)).2),λb=>ah V _ ⟨(l.trans p).trans e,bM o T ⟨V,v▸yb g b⟩⟩⟩
   .have ab:=cU V T;refine⟨V,V,V,?_⟩;have P:bX u (bt.cut 0 j 3) (c.take j):=eN.UX (bX.ext (K.trans l) hd) V;have am:(bt.cut 0 j 3).len=j:=by rw[P.len];simp;omega
    simp -zeta only[ov,Int.toNat_zero];refine dZ (n:=j) V (λk f=>J u f/\∀g∈c.take k,¬(d.cons.length=0/\g.cons.length=0/\g.tj=d.tj/\g.to=d.to)) ⟨J.aF _,aH⟩ ?_;rintro p x Y μ3 av ⟨C,U⟩ ai;refine dit (λs=>?_) λs=>?_
    .let⟨g,Q⟩:=cg c p;have R:(c.take j)[p]? =some g:=by rw[mV,ak V];exact Q
     let⟨Z,ac,q0,q1,q2⟩:=(bX.ext C P).aO R;have au:=ac.len;refine⟨V,V,_,q0,_,q1,Z,q2,?_⟩;intro y z;have X:J x z:=((J.aF x).aP _).ai (ad _) _ _;clear_value z;have B:¬(d.cons.length=0/\g.cons.length=0/\g.tj=d.tj/\g.to=d.to)->Y (cQ ((p:Int)+1)) z/\μ3 (cQ ((p:Int)+1)) z<μ3 p x:=λo=>ai V _ ⟨C.trans X,bM Q U o⟩;refine⟨λe=>?_,λe=>?_⟩
     .simp only[aM]at e;refine⟨λt=>?_,λt=>?_⟩
      .simp only[aM]at t;refine⟨λb=>?_,λb=>?_⟩
       .simp only[aM]at b;refine⟨λh=>?_,λh=>?_⟩
        .simp only[aM]at h;exact i ((l.trans C).trans X) λa=>(ly.1 a).2.2 g (aq R) ⟨V,V,b,h⟩
        .simp only[ao]at h;exact B λo=>h o.2.2.2
       .simp only[ao]at b;exact B λo=>b o.2.2.1
      .simp only[ao]at t;exact B λo=>t V
     .simp only[ao]at e;exact B λo=>e V
    .have:p=j:=V;subst this;refine aj V _ ⟨(K.trans l).trans C,λb e h a=>?_⟩
     by_cases g:b=p
     .subst g;rw[D]at a;simp at a;subst a;exact ly.2 ⟨ae,ab,U⟩
     .exact S b e V a
 .exact jr ⟨V,λL d bG=>S L d (oh (ax bG)) bG⟩ H
def Nz(m:E)(b:List Ce)(p:cZ):Prop:=∃a l,b=[.s a,.s l,.i p.aR]/\ap m a p.params/\ap m l p.df
def Nz.ext{m d:E}(b:J m d)(a:List Ce)(c:cZ):Nz m a c->Nz d a c:=λ⟨f,g,e,h,i⟩=>⟨f,g,e,h.ext b,i.ext b⟩
abbrev oN(m:E)(s:O)(l:List cZ):Prop:=eN m 3 (Nz m) s l
def oN.ext{m b:E}(a:J m b){s:O}{l:List cZ}(h:oN m s l):oN b s l:=h.mono a (Nz.ext a)
def oN.aO{s:O}{l:List cZ}(h:oN m s l){x:cZ}(f:l[k]? =some x):
 ∃a b,ap m a x.params/\ap m b x.df/\af m s.az (s.off+k*3)=some (O.v a)/\af m s.az (s.off+k*3+1)=some (O.v b)/\af m s.az (s.off+k*3+2)=some (vi x.aR):=by
 obtain⟨g,⟨a,b,rfl,d,e⟩,c⟩:=h.jC k x f
 exact⟨a,b,d,e,c 0 (.s a) rfl,c 1 (.s b) rfl,c 2 (.i x.aR) rfl⟩
def EN{Y Z:O}{q:List bo}{c:List cZ}(hd:bX m Y q)(P:oN m Z c):
 dz cq 98 [O.v Y,O.v Z] m (JQ q c/\∀p∈c,CO p.params p.df):=by
 apply yN
 simp -zeta only[aE,aD]
 have N:=hd.len
 have az:=P.len
 refine(CZ hd).then λu m1 e f=>⟨_,rfl,λG=>cr (λa=>nb e G a.1.types) f,λG=>?_⟩
 have ht:=yb e G
 refine dit (λh2=>?_) λh2=>?_
 .exact cr (λa=>oh a.1.len) f
 refine dit (λh3=>?_) λh3=>?_
 .exact cr (λa=>oh a.1.len) f
 let⟨p0,A⟩:=cg c 0
 let⟨a0,l0,ak,aB,g0,g1,g2⟩:=(oN.ext f P).aO A
 have aw:=ak.len
 refine⟨V,V,a0,g0,dit (λh4=>?_) λh4=>?_⟩
 .exact cr (λa=>oh ((a.1.first p0 A).1)) f
 refine⟨V,V,_,g2,λs=>?_,λs=>?_⟩
 .simp only[uF]at s
  exact cr (λa=>s (a.1.first p0 A).2) f
 simp only[ig]at s
 refine dZ (n:=c.length) V (λj U=>J m U/\∀p∈c.take j,(p.params.length<=3/\Eh q.length p.params/\yv q.length p.aR)/\CO p.params p.df) ⟨f,aH⟩ ?_
 rintro j C au μ hj ⟨l,hn⟩ ar
 refine dit (λh6=>?_) λh6=>?_
 .let⟨p,i⟩:=cg c j
  let⟨ah,ap,M,z,q0,q1,q2⟩:=(oN.ext l P).aO i
  have ay:=M.len
  have aF:=z.len
  have aC:=z.fu
  refine⟨V,V,ah,q0,ap,q1,_,q2,?_⟩
  intro m3 D
  have o:J C D:=((J.aF C).aP _).ai (ad _) _ _
  have aa:∀u∈[C.size],u<D.size:=by simp[D,m3,aA]
  clear_value D
  refine dit (λh7=>?_) λh7=>?_
  .exact cr (λa=>oh ((a.1.de p (aq i)).1)) (l.trans o)
  refine(uU (M.ext o) _).aI (J.aF _) aa λu m5 e h8 h9=>⟨_,rfl,λH=>cr (λa=>nb e H (N▸(a.1.de p (aq i)).2.1)) ((l.trans o).trans h8),λH=>?_⟩
  have ac:=yb e H
  refine(oT _ _ _).aI h9 aa λu W e av I=>⟨_,rfl,λK=>cr (λa=>nb e K (N▸(a.1.de p (aq i)).2.2)) ((l.trans o).trans I),λK=>?_⟩
  have ab:=yb e K
  rw[N]at ac ab
  have ae:J m W:=(l.trans o).trans I
  have S:J C W:=o.trans I
  refine dZ (n:=p.df.length) V (λk U=>U=W/\∀(j:Nat)(v:Int),j<k->p.df[j]? =some v->(∃t,0<=v/\p.params[v.toNat]? =some t/\t≠0)/\(∀E:Int,0<j->p.df[j -1]? =some E->E<v)) ⟨rfl,aH⟩ ?_
  rintro k m7 I2 μ2 hk ⟨rfl,Q⟩ af
  have w:¬CO p.params p.df->∃X:Bool,vb false=.bool X/\(X=true<->JQ q c/\∀p∈c,CO p.params p.df)/\J m m7:=λam=>cr (λa=>am (a.2 p (aq i))) ae
  refine dit (λai=>?_) λai=>?_
  .let⟨x,g⟩:=cg p.df k
   refine⟨V,V,x,by simpa using S.af (z.aO g),dit (λaj=>?_) λaj=>?_⟩
   .exact w λa=>by obtain⟨⟨t,y,_⟩,_⟩:=a k x g;omega
   refine⟨λy=>?_,λy=>?_⟩
   .simp only[uG,an]at y
    refine w λa=>?_
    obtain⟨⟨t,_,d,_⟩,_⟩:=a k x g
    have:=ax d;omega
   simp only[uG,br]at y
   let⟨t,B⟩:=cg p.params x.toNat
   refine⟨V,V,t,by simpa using S.af (M.aO B),λd=>?_,λd=>?_⟩
   .simp only[aM]at d
    refine w λa=>?_
    obtain⟨⟨b,_,r,L⟩,_⟩:=a k x g
    rw[B]at r;simp at r;exact L (r▸d)
   simp only[ao]at d
   refine dit (λr=>?_) λr=>?_
   .have e2:cQ ((k:Int) -1)=((k -1:Nat):Int):=by rw[aQ V V];omega
    let⟨ag,T⟩:=cg p.df (k -1)
    rw[e2]
    refine⟨V,V,ag,by simpa using S.af (z.aO T),dit (λL=>?_) λL=>?_⟩
    .exact w λa=>by have:=(a k x g).2 ag V T;omega
    .refine af V _ ⟨rfl,λh v al b=>?_⟩
     by_cases F:h=k
     .subst F
      rw[g]at b;simp at b;subst b
      refine⟨⟨t,V,B,d⟩,λE _ R=>?_⟩
      rw[T]at R;simp at R;subst R;omega
     .exact Q h v V b
   .refine af V _ ⟨rfl,λh v al b=>?_⟩
    by_cases F:h=k
    .subst F
     rw[g]at b;simp at b;subst b
     exact⟨⟨t,V,B,d⟩,λE L _=>V⟩
    .exact Q h v V b
  .exact ar V _ ⟨ae,bM i hn ⟨⟨V,ac,ab⟩,λh v b=>Q h v (oh (ax b)) b⟩⟩
 .have b:=cU V hn
  refine jr ⟨⟨ht,V,λp a=>(b p a).1,λp a=>?_⟩,λp a=>(b p a).2⟩ l
  rw[A]at a;simp at a;subst a
  exact⟨V,s⟩
end
section
variable{c:E}{d f a j:O}{b:cp}{i:Instr}
def EJ{H:O}(D:eX c d H b):
 aN cq 55 [.agg #[O.v d,O.v H]] c λan t=>∃T f e,an=.tuple #[.agg #[O.v T,O.v f],vb e]/\(e=true<->JQ b.bt b.cv/\∀H∈b.cv,CO H.params H.df)/\
  (e=true->T=d/\oN t f b.cv)/\J c t:=by
 apply yL
 simp -zeta only[aE,aD]
 intro G h
 have aq:=D.cv.len
 have s1:G.size=c.size+1:=by simp[G]
 have s2:h.size=c.size+2:=by simp[h,G]
 have ab:J c h:=((J.aF c).aP _).aP _
 refine dit (λh1=>?_) λh1=>?_
 .intro g
  exact⟨_,_,_,rfl,⟨sx,λD=>oh D.1.len⟩,sx,ab.ai V _ _⟩
 intro m4 C
 have s5:C.size=c.size+3:=by simp[C,m4,aA,s2]
 have al:J c C:=(ab.aP _).ai V _ _
 have ah:cz C h.size lB [.s d,.s .nil]:=cz.ai (m:=m4) (o:=0) (r:=[.s d,.s .nil]) (cz.push h _ _)
 clear_value C
 refine dZ (n:=b.cv.length) V (λM t=>J c t/\C.size<=t.size/\∃g w,cz t h.size lB [.s d,.s g]/\fZ c t pu 3 g w.flatten/\gT 3 (Nz c) w (b.cv.take M)/\(g≠.nil->h.size<g.az)/\g.len=M)
  ⟨al,ad _,.nil,[],ah,fZ.nil _ _ _ _,by simpa using gT.nil 3 (Nz c),aH,rfl⟩ ?_
 rintro M i ao μ hk ⟨l,ar,g,w,s,K,L,Q,aa⟩ am
 refine dit (λh2=>?_) λh2=>?_
 .let⟨N,Y⟩:=cg b.cv M
  let⟨a,e,ac,ha,p,y,g0,g1,g2,g3,g4⟩:=D.cv.aO Y
  refine⟨V,V,a,by simpa using l.af g0,e,by simpa using l.af g1,_,by simpa using l.af g2,_,by simpa using l.af g3,ac,by simpa using l.af g4,?_⟩
  intro S j
  have F:J i j:=((J.aF i).aP _).ai (ad _) _ _
  have s8:j.size=i.size+1:=by simp[j,S,aA]
  clear_value j
  refine⟨g,(s.ext F).cJ 1,?_⟩
  intro u
  have R:J i u:=F.aP _
  have s9:u.size=i.size+2:=by simp[u,s8]
  have k8:gP u j.size 0 [.s a,.s e,.i N.aR]:=(cz.push j _ _).jC
  clear_value u
  refine fZ.append (zs:=[.s .nil,.s .nil,.i 0]) (d:=[.s a,.s e,.i N.aR]) (K.ext R) (l.trans R) rfl k8 (by simp[aa];omega) ?_
  intro v A h7 h8 U ap ae af
  have Z:v≠.nil->h.size<v.az:=by
   intro z;rcases af with⟨_,x⟩|⟨aj,x,_⟩|x
   .exact absurd x z
   .have:=Q aj;omega
   .omega
  have I:∀k,k<u.size->k<=h.size\/k=i.size/\(g=.nil\/g.az<i.size)->A[k]? =u[k]? :=by
   intro k q y;refine ae k q λz=>?_;have:=Q z;rcases y with y|⟨rfl,y|y⟩
   .omega
   .exact absurd y z
   .omega
  have ai:g=.nil\/g.az<i.size:=K.lt
  have W:cz A h.size lB [.s d,.s g]:=(s.ext R).congr (I _ V (Or.inl (ad _)))
  refine⟨λk q=>?_,W.fg aH,?_⟩
  .simp at q
   rcases q with rfl|rfl|rfl
   .exact I _ V (Or.inr ⟨rfl,ai⟩)
   .exact I _ V (Or.inl V)
   .exact I _ V (Or.inl V)
  intro B
  have au:B.size=A.size:=by simp[B,aA]
  have ag:cz B h.size lB [.s d,.s v]:=cz.ai (m:=A) (o:=1) (r:=[.s v]) W
  have X:∀e,e≠h.size->B[e]? =A[e]? :=λe p=>bd _ _ _ _ p
  have ak:J c B:=h8.ai V _ _
  clear_value B
  refine⟨λk q=>?_,?_⟩
  .simp at q
   rcases q with rfl|rfl|rfl<;>exact X _ V
  refine am V _ ⟨ak,V,v,w++[[.s a,.s e,.i N.aR]],ag,?_,?_,Z,by simp[U,aa]⟩
  .rw[xt]
   have P:fZ c A pu 3 v (w.flatten++[[.s a,.s e,.i N.aR]].flatten):=by simpa using h7
   rcases P.lt with x|x
   .subst x;exact⟨P.len,Or.inl rfl⟩
   .refine P.congr (X _ λe2=>?_)
    by_cases E:v=.nil
    .subst E
     have:=U
     simp at this
    .have:=Z E;omega
  .rw[bC Y]
   exact L.y9 rfl ⟨a,e,rfl,ha,p⟩
 .rw[cy V]at L
  have x:oN i g b.cv:=(eN.fP K L V V).mono (J.aF _) (Nz.ext l)
  refine⟨d,s.cJ 0,g,s.cJ 1,g,s.cJ 1,?_⟩
  have u:∀e∈[G.size,c.size],e<i.size:=bN
  refine(EN (bX.ext l D.bt) x).aI (J.aF _) u λe S p k _=>⟨_,rfl,k.dA (s.cJ 0),k.dA (s.cJ 1),?_⟩
  intro j
  have z:∀e,e≠G.size->j[e]? =S[e]? :=λe p=>bd _ _ _ _ p
  have F:J c j:=(l.trans k).ai V _ _
  refine⟨d,g,e,rfl,p,λ_=>⟨rfl,?_⟩,F⟩
  have q:=K.ext k
  have v:fZ c j pu 3 g w.flatten:=by
   by_cases E:g=.nil
   .subst E;exact⟨q.len,Or.inl rfl⟩
   .exact q.congr (z _ (oh (Q E)))
  exact(eN.fP v L V V).mono (J.aF _) (Nz.ext F)
def fX(b:cp)(i:Instr)(a:Int->Prop):Prop:=
 if i.op=0 then -999<=i.bK/\i.bK<=999
 else if i.op=6 then 0<=i.bK/\i.bK<(eI b.bt).length
 else if i.op=9\/i.op=24 then 0<=i.bK/\i.bK<b.cv.length
 else if i.op=10 then 0<=i.bK/\∃q,b.cv[i.bK.toNat]? =some q/\q.df.length=0
 else if i.op=19 then 0<=i.bK/\i.bK<3
 else if i.op=20\/i.op=22 then a i.bK
 else if i.op=21 then 0<(bY b.bt i.bK).length/\i.di.length=(bY b.bt i.bK).length
 else i.bK=0
def GO(hd:bX c d b.bt)(x:dH b.bt)(A:oN c f b.cv)(N:ap c a i.args)(E:ap c j i.di)(t:Nat)(v u:Array Value)(D:GL.elem t=true)(l:Int->Prop)
 (G:∀e,J c e->dz cq t (v.toList++[vi i.bK]++u.toList) e (l i.bK)):
 dz cq 101 [.agg #[O.v d,O.v f],.agg #[vi i.op,vi i.dst,vi i.bK,vi i.bW,O.v a,O.v j],.func (.func t) v u] c (fX b i l):=by
 apply pR d f i.op i.dst i.bK i.bW a j (.func t,v,u)
 simp -zeta only[aE,aD]
 intro y r
 have e:J c r:=((J.aF c).aP _).aP _
 have w:∀z∈[y.size,c.size],z<r.size:=by simp[r,y];omega
 have Q:=A.len
 have R:=E.len
 have C:cz r y.size dN [.i i.op,.i i.dst,.i i.bK,.i i.bW,.s a,.s j]:=cz.push _ _ _
 clear_value r
 refine⟨λk=>?_,λk=>?_⟩
 .simp only[aM]at k
  rw[show fX b i l<->-999<=i.bK/\i.bK<=999 by rw[fX,ak k]]
  refine⟨λh=>fU ?_ e,λh=>cr ?_ e⟩<;>simp at h
  .simp;omega
  .omega
 simp only[ao]at k
 refine⟨λm=>?_,λm=>?_⟩
 .simp only[aM]at m
  rw[show fX b i l<->0<=i.bK/\i.bK<(eI b.bt).length by rw[fX,ae k,ak m]]
  refine⟨λh=>?_,λh=>cr ?_ e⟩<;>simp at h
  .refine(uV (bX.ext e hd) x.len (Q0 x)).aI (J.aF _) w λB g _=>⟨_,rfl,g.dA (C.cJ 2),fU ?_ (e.trans g)⟩
   simp;omega
  .omega
 simp only[ao]at m
 refine⟨λn=>?_,λn=>?_⟩
 .simp only[cB,aM]at n
  rw[show fX b i l<->0<=i.bK/\i.bK<b.cv.length by rw[fX,ae k,ae m,ak n]]
  refine⟨λh=>fU ?_ e,λh=>cr ?_ e⟩<;>simp at h
  .simp;omega
  .omega
 simp only[bU,ao]at n
 replace n:¬(i.op=9\/i.op=24):=V
 refine⟨λo=>?_,λo=>?_⟩
 .simp only[aM]at o
  rw[show fX b i l<->0<=i.bK/\∃q,b.cv[i.bK.toNat]? =some q/\q.df.length=0 by rw[fX,ae k,ae m,ae n,ak o]]
  refine⟨λh=>⟨λp=>?_,λp=>?_⟩,λh=>cr ?_ e⟩<;>simp at h
  .simp at p
   let⟨q,s⟩:=cg b.cv i.bK.toNat
   let⟨I,H,P,F,K,g1,g2⟩:=(oN.ext e A).aO s
   have:=F.len
   refine⟨V,V,H,g1,fU ?_ e⟩
   simp only[aM]
   refine⟨λL=>⟨h,q,s,V⟩,λ⟨_,S,g,M⟩=>?_⟩
   rw[s]at g;simp at g;subst g;omega
  .simp at p
   exact cr (λ⟨_,q,g,_⟩=>oh (ax g)) e
  .omega
 simp only[ao]at o
 refine⟨λp=>?_,λp=>?_⟩
 .simp only[aM]at p
  rw[show fX b i l<->0<=i.bK/\i.bK<3 by rw[fX,ae k,ae m,ae n,ae o,ak p]]
  refine⟨λh=>fU ?_ e,λh=>cr ?_ e⟩<;>simp at h
  .simp;omega
  .omega
 simp only[ao]at p
 refine⟨λq=>?_,λq=>?_⟩
 .simp only[cB,aM]at q
  rw[show fX b i l<->l i.bK by rw[fX,ae k,ae m,ae n,ae o,ae p,ak q]]
  exact⟨t,rfl,D,(G r e).aI (J.aF _) w λz B s g _=>⟨_,rfl,fU s (e.trans g)⟩⟩
 simp only[bU,ao]at q
 replace q:¬(i.op=20\/i.op=22):=V
 refine⟨λs=>?_,λs=>?_⟩
 .simp only[aM]at s
  rw[show fX b i l<->0<(bY b.bt i.bK).length/\i.di.length=(bY b.bt i.bK).length by rw[fX,ae k,ae m,ae n,ae o,ae p,ae q,ak s]]
  refine(Kn (bX.ext e hd) x _).aI (J.aF _) w ?_
  rintro _ B ⟨H,rfl,F,g⟩
  have:=F.len
  refine⟨g,_,rfl,λh=>fU ?_ (e.trans g),λh=>cr ?_ (e.trans g)⟩<;>simp at h
  .simp only[aM];omega
  .omega
 .simp only[ao]at s
  rw[show fX b i l<->i.bK=0 by rw[fX,ae k,ae m,ae n,ae o,ae p,ae q,ae s]]
  exact fU aH e
def gD(b:cp)(i:Instr)(c a:Int):Prop:=
 if i.op=0\/i.op=22 then c=0/\a=0
 else if i.op=1\/i.op=2\/i.op=3\/i.op=4\/i.op=11 then c=2/\a=2
 else if i.op=6 then c=(bZ b.bt i.bK).length/\a=(bZ b.bt i.bK).length
 else if i.op=9\/i.op=24 then∃q,b.cv[i.bK.toNat]? =some q/\c=q.params.length/\a=q.params.length
 else if i.op=10 then∃q,b.cv[i.bK.toNat]? =some q/\c=(q.params.length:Int) -1/\a=(q.params.length:Int) -1
 else if i.op=16\/i.op=17 then c=1/\a=4
 else c=1/\a=1
def Km(hd:bX c d b.bt)(A:dH b.bt)(x:oN c f b.cv){H:Int->Prop}(t:fX b i H):
 aN cq 102 [.agg #[O.v d,O.v f],.agg #[vi i.op,vi i.dst,vi i.bK,vi i.bW,O.v a,O.v j]] c λK I=>∃B z:Int,K=.tuple #[vi B,vi z]/\gD b i B z/\J c I:=by
 apply qZ
 simp -zeta only[aE,aD]
 intro C u
 have g:J c u:=((J.aF c).aP _).aP _
 have E:∀D∈[C.size,c.size],D<u.size:=by simp[u,C];omega
 have M:=x.len
 clear_value u
 refine⟨λh=>?_,λh=>?_⟩
 .simp only[cB,aM]at h
  exact⟨_,_,rfl,by rw[gD,ak h];exact⟨rfl,rfl⟩,g⟩
 simp only[bU,ao]at h
 have l:¬(i.op=0\/i.op=22):=V
 refine⟨λq=>?_,λq=>?_⟩
 .simp only[cB,aM]at q
  exact⟨_,_,rfl,by rw[gD,ae l,ak q];exact⟨rfl,rfl⟩,g⟩
 simp only[bU,ao]at q
 have n:¬(i.op=1\/i.op=2\/i.op=3\/i.op=4\/i.op=11):=V
 refine⟨λe=>?_,λe=>?_⟩
 .simp only[aM]at e
  rw[fX,ae h.1,ak e]at t
  have m:=sD A b.bt.length
  rw[nJ _ _ (ad _)]at m
  refine(GK (bX.ext g hd) A _ V).aI (J.aF _) E ?_
  rintro _ p ⟨s,rfl,o,k⟩
  have:=o.len
  exact⟨k,_,rfl,_,_,rfl,by rw[gD,ae l,ae n,ak e];omega,g.trans k⟩
 simp only[ao]at e
 refine⟨λo=>?_,λo=>?_⟩
 .simp only[cB,aM]at o
  rw[fX,ae h.1,ae e,ak o]at t
  let⟨v,m⟩:=cg b.cv i.bK.toNat
  let⟨p,G,s,F,w,g1,g2⟩:=(oN.ext g x).aO m
  have:=s.len
  exact⟨V,V,p,w,_,_,rfl,by rw[gD,ae l,ae n,ae e,ak o];exact⟨v,m,V,V⟩,g⟩
 simp only[bU,ao]at o
 have r:¬(i.op=9\/i.op=24):=V
 refine⟨λk=>?_,λk=>?_⟩
 .simp only[aM]at k
  rw[fX,ae h.1,ae e,ae r,ak k]at t
  obtain⟨L,v,m,_⟩:=t
  let⟨p,G,s,F,w,g1,g2⟩:=(oN.ext g x).aO m
  have:=s.len
  have:=s.fu
  have:=ax m
  have y:cQ ((p.len:Int) -1)=(v.params.length:Int) -1:=by rw[aQ V V];omega
  exact⟨V,V,p,w,_,_,rfl,by rw[gD,ae l,ae n,ae e,ae r,ak k];exact⟨v,m,y,y⟩,g⟩
 simp only[ao]at k
 refine⟨λm=>?_,λm=>?_⟩
 .simp only[cB,aM]at m
  exact⟨_,_,rfl,by rw[gD,ae l,ae n,ae e,ae r,ae k,ak m];exact⟨rfl,rfl⟩,g⟩
 .simp only[bU,ao]at m
  have p:¬(i.op=16\/i.op=17):=V
  exact⟨_,_,rfl,by rw[gD,ae l,ae n,ae e,ae r,ae k,ae p];exact⟨rfl,rfl⟩,g⟩
end
section
variable{m:E}{x k:Int}{a b1:Nat}{c:O}
def wS(b:af m a 0=some (vi k))(d:af m b1 4=some (O.v c)):
 dz cq 99 [vi x,vp a 0,vp b1 0] m (k+1<=x/\x<=(c.len:Int) -1):=by
 apply nL (a,0) (b1,0)
 refine⟨k,b,λh=>⟨c,d,fU ?_ (J.aF _)⟩,λh=>cr ?_ (J.aF _)⟩<;>simp at h
 .simp;omega
 .omega
def IN{b2:Nat}(b:af m a 0=some (vi k))(d:af m b1 4=some (O.v c))
 (e:af m b2 0=some (.func (.func 99) #[] #[vp a 0,vp b1 0])):
 dz cq 100 [vi x,vp b2 0] m (¬(k+1<=x/\x<=(c.len:Int) -1)):=by
 apply nM (b2,0)
 refine⟨(.func 99,#[],#[vp a 0,vp b1 0]),e,_,rfl,rfl,?_⟩
 refine(wS b d).then λh i f g=>⟨_,rfl,fU ?_ g⟩
 rw[<-f];simp
def Ik{u:cp}{p:cZ}{k:Nat}{i:Instr}(N:p.av<=1000000)(L:u.cv.length<=4)(F:∀q∈u.cv,q.params.length<=3):
 iu u p k i<->((0<=i.op/\i.op<=24/\i.op≠7/\i.op≠8/\i.op≠12/\i.op≠13)/\(0<=i.dst/\i.dst<p.av/\(i.dst=0\/jD i.op)/\0<=i.bW/\i.bW<=p.av/\(i.bW=0\/i.op=6))/\
  (∀n∈i.args,0<=n/\n<p.av)/\(i.di.length=0\/i.op=21)/\(∀t∈i.di,(k:Int)+1<=t/\t<=(p.bn.length:Int) -1)/\
  fX u i (λt=>(k:Int)+1<=t/\t<=(p.bn.length:Int) -1)/\∀j h,gD u i j h->j<=i.args.length/\(i.args.length:Int)<=h):=by
 have M:(0<=i.dst/\i.dst<p.av)->0<p.av:=λw=>V
 constructor
 .intro w
  have b:=w.op
  have hd:=w.dst
  have C:∀n∈i.args,0<=n/\n<p.av:=λn f=>by have:=w.args n f;omega
  have s:i.op≠21->∀t∈i.di,(k:Int)+1<=t/\t<=(p.bn.length:Int) -1:=λH t I=>by
   rcases w.di with o|o
   .exact absurd o H
   .rw[List.length_eq_zero_iff.1 o]at I;cases I
  have D:i.di.length=0\/i.op=21:=w.di.symm
  have G:0<=i.dst/\i.dst<p.av:=V
  have hO:∀(_:0<=i.op/\i.op<=24/\i.op≠7/\i.op≠8/\i.op≠12/\i.op≠13)(_:0<=i.bW/\i.bW<=p.av)(_:∀t∈i.di,(k:Int)+1<=t/\t<=(p.bn.length:Int) -1)
   (_:fX u i (λt=>(k:Int)+1<=t/\t<=(p.bn.length:Int) -1))(_:∀j h,gD u i j h->j<=i.args.length/\(i.args.length:Int)<=h),_:=
   λE B F K o=>(⟨E,⟨G.1,G.2,w.U1,B.1,B.2,w.bW⟩,C,D,F,K,o⟩:(0<=i.op/\i.op<=24/\i.op≠7/\i.op≠8/\i.op≠12/\i.op≠13)/\(0<=i.dst/\i.dst<p.av/\(i.dst=0\/jD i.op)/\0<=i.bW/\i.bW<=p.av/\(i.bW=0\/i.op=6))/\
   (∀n∈i.args,0<=n/\n<p.av)/\(i.di.length=0\/i.op=21)/\(∀t∈i.di,(k:Int)+1<=t/\t<=(p.bn.length:Int) -1)/\
   fX u i (λt=>(k:Int)+1<=t/\t<=(p.bn.length:Int) -1)/\∀j h,gD u i j h->j<=i.args.length/\(i.args.length:Int)<=h)
  have r:i.op≠6->0<=i.bW/\i.bW<=p.av:=λH=>by rcases w.bW with o|o<;>omega
  unfold kM at b
  by_cases c:i.op=0
  .rw[ak c]at b
   refine hO V (r V) (s V) (by rw[fX,ak c];exact b.2) (λj h f=>?_)
   rw[gD,ak (Or.inl c)]at f;omega
  rw[ae c]at b
  by_cases g:i.op=1\/i.op=2\/i.op=3\/i.op=4\/i.op=11
  .rw[ak g]at b
   refine hO V (r V) (s V) ?_ (λj h f=>?_)
   .rw[fX,ae c,ae V,ae V,ae V,ae V,ae V,ae V];exact b.2
   .rw[gD,ae V,ak g]at f;omega
  rw[ae g]at b
  by_cases A:i.op=5\/i.op=14\/i.op=15\/i.op=18\/i.op=23
  .rw[ak A]at b
   refine hO V (r V) (s V) ?_ (λj h f=>?_)
   .rw[fX,ae c,ae V,ae V,ae V,ae V,ae V,ae V];exact b.2
   .rw[gD,ae V,ae g,ae V,ae V,ae V,ae V]at f;omega
  rw[ae A]at b
  by_cases a:i.op=6
  .rw[ak a]at b
   refine hO V b.2.2 (s V) ?_ (λj h f=>?_)
   .rw[fX,ae c,ak a];exact b.1
   .rw[gD,ae V,ae g,ak a]at f;omega
  rw[ae a]at b
  by_cases d:i.op=9\/i.op=24
  .rw[ak d]at b
   let⟨q,o,x,v⟩:=b
   have:=ax x
   refine hO V (r V) (s V) ?_ (λj h f=>?_)
   .rw[fX,ae c,ae a,ak d];omega
   .rw[gD,ae V,ae g,ae a,ak d]at f
    let⟨J,l,y,m⟩:=f
    rw[x]at l;simp at l;subst l;omega
  rw[ae d]at b
  by_cases e:i.op=10
  .rw[ak e]at b
   let⟨⟨q,o,x,v⟩,l⟩:=b
   have:=ax x
   refine hO V (r V) (s V) ?_ (λj h f=>?_)
   .rw[fX,ae c,ae a,ae d,ak e];exact⟨o,q,x,l q x⟩
   .rw[gD,ae V,ae g,ae a,ae d,ak e]at f
    let⟨J,l,y,m⟩:=f
    rw[x]at l;simp at l;subst l;omega
  rw[ae e]at b
  by_cases l:i.op=16\/i.op=17
  .rw[ak l]at b
   refine hO V (r V) (s V) ?_ (λj h f=>?_)
   .rw[fX,ae c,ae a,ae d,ae e,ae V,ae V,ae V];exact b.2
   .rw[gD,ae V,ae g,ae a,ae d,ae e,ak l]at f;omega
  rw[ae l]at b
  by_cases m:i.op=19
  .rw[ak m]at b
   refine hO V (r V) (s V) ?_ (λj h f=>?_)
   .rw[fX,ae c,ae a,ae d,ae e,ak m];omega
   .rw[gD,ae V,ae g,ae a,ae d,ae e,ae l]at f;omega
  rw[ae m]at b
  by_cases z:i.op=20
  .rw[ak z]at b
   refine hO V (r V) (s V) ?_ (λj h f=>?_)
   .rw[fX,ae c,ae a,ae d,ae e,ae m,ak (Or.inl z)];exact b.2
   .rw[gD,ae V,ae g,ae a,ae d,ae e,ae l]at f;omega
  rw[ae z]at b
  by_cases v:i.op=22
  .rw[ak v]at b
   refine hO V (r V) (s V) ?_ (λj h f=>?_)
   .rw[fX,ae c,ae a,ae d,ae e,ae m,ak (Or.inr v)];exact b.2
   .rw[gD,ak (Or.inr v)]at f;omega
  rw[ae v]at b
  by_cases y:i.op=21
  .rw[ak y]at b
   refine hO V (r V) b.2.2.2 ?_ (λj h f=>?_)
   .rw[fX,ae c,ae a,ae d,ae e,ae m,ae V,ak y]
    have:=b.2.2.1
    exact⟨b.2.1,V⟩
   .rw[gD,ae V,ae g,ae a,ae d,ae e,ae l]at f;omega
  rw[ae y]at b
  exact b.elim
 .rintro⟨E,B,C,D,s,b,h⟩
  refine⟨λn f=>oh (C n f),V,B.2.2.1,B.2.2.2.2.2,D.symm,?_⟩
  unfold kM
  by_cases c:i.op=0
  .rw[ak c]
   rw[fX,ak c]at b
   have:=h 0 0 (by rw[gD,ak (Or.inl c)];exact⟨rfl,rfl⟩)
   exact⟨V,b⟩
  rw[ae c]
  by_cases g:i.op=1\/i.op=2\/i.op=3\/i.op=4\/i.op=11
  .rw[ak g]
   rw[fX,ae c,ae V,ae V,ae V,ae V,ae V,ae V]at b
   have:=h 2 2 (by rw[gD,ae V,ak g];exact⟨rfl,rfl⟩)
   exact⟨V,b⟩
  rw[ae g]
  by_cases A:i.op=5\/i.op=14\/i.op=15\/i.op=18\/i.op=23
  .rw[ak A]
   rw[fX,ae c,ae V,ae V,ae V,ae V,ae V,ae V]at b
   have:=h 1 1 (by rw[gD,ae V,ae g,ae V,ae V,ae V,ae V];exact⟨rfl,rfl⟩)
   exact⟨V,b⟩
  rw[ae A]
  by_cases a:i.op=6
  .rw[ak a]
   rw[fX,ae c,ak a]at b
   have:=h _ _ (by rw[gD,ae V,ae g,ak a];exact⟨rfl,rfl⟩)
   exact⟨b,V,V⟩
  rw[ae a]
  by_cases d:i.op=9\/i.op=24
  .rw[ak d]
   rw[fX,ae c,ae a,ak d]at b
   let⟨q,j⟩:=cg u.cv i.bK.toNat
   have:=h _ _ (by rw[gD,ae V,ae g,ae a,ak d];exact⟨q,j,rfl,rfl⟩)
   exact⟨q,b.1,j,V⟩
  rw[ae d]
  by_cases e:i.op=10
  .rw[ak e]
   rw[fX,ae c,ae a,ae d,ak e]at b
   let⟨o,q,j,x⟩:=b
   have:=h _ _ (by rw[gD,ae V,ae g,ae a,ae d,ak e];exact⟨q,j,rfl,rfl⟩)
   refine⟨⟨q,o,j,V⟩,λJ r=>?_⟩
   rw[j]at r;simp at r;subst r;exact x
  rw[ae e]
  by_cases l:i.op=16\/i.op=17
  .rw[ak l]
   rw[fX,ae c,ae a,ae d,ae e,ae V,ae V,ae V]at b
   have:=h 1 4 (by rw[gD,ae V,ae g,ae a,ae d,ae e,ak l];exact⟨rfl,rfl⟩)
   exact⟨V,b⟩
  have j:i.op≠22->∀(c:¬i.op=0)(g:¬(i.op=1\/i.op=2\/i.op=3\/i.op=4\/i.op=11))(a:¬i.op=6)(d:¬(i.op=9\/i.op=24))(e:¬i.op=10)(l:¬(i.op=16\/i.op=17)),i.args.length=1:=λo c g a d e l=>by
   have:=h 1 1 (by rw[gD,ae V,ae g,ae a,ae d,ae e,ae l];exact⟨rfl,rfl⟩);omega
  rw[ae l]
  by_cases m:i.op=19
  .rw[ak m]
   rw[fX,ae c,ae a,ae d,ae e,ak m]at b
   exact⟨j V c g a d e l,V,V⟩
  rw[ae m]
  by_cases z:i.op=20
  .rw[ak z]
   rw[fX,ae c,ae a,ae d,ae e,ae m,ak (Or.inl z)]at b
   exact⟨j V c g a d e l,b⟩
  rw[ae z]
  by_cases v:i.op=22
  .rw[ak v]
   rw[fX,ae c,ae a,ae d,ae e,ae m,ak (Or.inr v)]at b
   have:=h 0 0 (by rw[gD,ak (Or.inr v)];exact⟨rfl,rfl⟩)
   exact⟨V,b⟩
  rw[ae v]
  by_cases y:i.op=21
  .rw[ak y]
   rw[fX,ae c,ae a,ae d,ae e,ae m,ae V,ak y]at b
   exact⟨j V c g a d e l,b.1,V,s⟩
  rw[ae y]
  omega
end
section
variable{b:E}{d:O}{c:cp}
def C1{W ah aw Q:O}(hd:bX b d c.bt)(ht:dH c.bt)(hf:oN b W c.cv)(aJ:c.cv.length<=4)(h3:∀q∈c.cv,q.params.length<=3)
 {q:cZ}(hc:eu b Q q.bn)(hr:q.av<=2000){l:Nat}{e:Instr}{K P:O}(X:ap b K e.args)(hj:ap b P e.di):
 dz cq 56 [.agg #[O.v d,O.v W],.agg #[O.v ah,O.v aw,vi q.aR,vi q.av,O.v Q],vi l,.agg #[vi e.op,vi e.dst,vi e.bK,vi e.bW,O.v K,O.v P]] b (iu c q l e):=by
 apply oU
 simp -zeta only[aE,aD]
 intro B A E w
 have s1:B.size=b.size+1:=by simp[B]
 have s2:A.size=b.size+2:=by simp[A,s1]
 have s3:E.size=b.size+3:=by simp[E,s2]
 have s4:w.size=b.size+4:=by simp[w,s3]
 have z:J b w:=((((J.aF b).aP _).aP _).aP _).aP _
 have am:cz w A.size ay [.i l]:=(cz.push A _ _).ext (J.push _ _)
 have ao:cz w B.size jd [.s ah,.s aw,.i q.aR,.i q.av,.s Q]:=(cz.push B _ _).ext ((J.push A _).aP _)
 have u:=Ik (u:=c) (p:=q) (k:=l) (i:=e) (oh hr) aJ h3
 have aC:=hc.len
 have aR:=X.len
 have aS:=hj.len
 clear_value w
 clear_value E
 clear_value A
 clear_value B
 refine⟨λh=>cr (λf=>?_) z,λc0=>⟨λh=>cr (λf=>?_) z,λc1=>⟨λh=>cr (λf=>?_) z,λc2=>⟨λh=>cr (λf=>?_) z,λc3=>⟨λh=>cr (λf=>?_) z,λc4=>⟨λh=>cr (λf=>?_) z,λc5=>?_⟩⟩⟩⟩⟩⟩
 any_goals (have:=(u.1 f).1;simp at h;omega)
 simp at c0 c1 c2 c3 c4 c5
 have f1:0<=e.op/\e.op<=24/\e.op≠7/\e.op≠8/\e.op≠12/\e.op≠13:=V
 refine⟨λx=>J w x/\(0<=e.dst/\e.dst<q.av/\(e.dst=0\/jD e.op)/\0<=e.bW/\e.bW<=q.av/\(e.bW=0\/e.op=6)),?_,?_⟩
 .refine⟨λh=>cr (λf=>?_) z,λG=>⟨λh=>cr (λf=>?_) z,λI=>?_⟩⟩
  .have:=(u.1 f).2.1;simp at h;omega
  .have:=(u.1 f).2.1;simp at h;omega
  simp at G I
  have tail:∀x,J w x->(e.dst=0\/jD e.op)->((decide (e.bW<(0:Int)))=true->∃g:Bool,Value.bool false=.bool g/\(g=true<->iu c q l e)/\J b x)/\((decide (e.bW<(0:Int)))=false->
   ((decide (e.bW>q.av))=true->∃g:Bool,Value.bool false=.bool g/\(g=true<->iu c q l e)/\J b x)/\((decide (e.bW>q.av))=false->
   ((e.bW !=(0:Int))=true->((e.op !=(6:Int))=true->∃g:Bool,Value.bool false=.bool g/\(g=true<->iu c q l e)/\J b x)/\((e.op !=(6:Int))=false->J w x/\(0<=e.dst/\e.dst<q.av/\(e.dst=0\/jD e.op)/\0<=e.bW/\e.bW<=q.av/\(e.bW=0\/e.op=6))))/\
   ((e.bW !=(0:Int))=false->J w x/\(0<=e.dst/\e.dst<q.av/\(e.dst=0\/jD e.op)/\0<=e.bW/\e.bW<=q.av/\(e.bW=0\/e.op=6))))):=by
   intro x H N
   have L:=z.trans H
   refine⟨λh=>cr (λf=>?_) L,λC=>⟨λh=>cr (λf=>?_) L,λF=>⟨λt=>⟨λh=>cr (λf=>?_) L,λM=>⟨H,?_⟩⟩,λt=>⟨H,?_⟩⟩⟩⟩
   .have:=(u.1 f).2.1;simp at h;omega
   .have:=(u.1 f).2.1;simp at h;omega
   .have:=(u.1 f).2.1.2.2.2.2.2;simp at h t;omega
   .simp at C F M;exact⟨G,I,N,C,F,Or.inr M⟩
   .simp at C F t;exact⟨G,I,N,C,F,Or.inl t⟩
  refine⟨λh=>?_,λh=>tail w (J.aF _) (Or.inl (by simpa using h))⟩
  refine(qF e.op w ⟨V,V⟩).aI (J.aF _) bN λv x D H _=>⟨v,rfl,λy=>cr (λf=>?_) (z.trans H),λy=>tail x H (Or.inr (yb D y))⟩
  have:=(u.1 f).2.1.2.2.1
  simp at h
  rcases this with s|s
  .exact h s
  .exact nb D y s
 .rintro x ⟨H,f2⟩
  refine dZ (n:=e.args.length) (oh X.fu) (λae R=>J w R/\∀G∈e.args.take ae,0<=G/\G<q.av) ⟨H,aH⟩ ?_
  rintro ae I aQ μ hn ⟨y,aj⟩ aO
  have aa:=z.trans y
  refine dit (λh=>?_) λh=>?_
  .let⟨G,t⟩:=cg e.args ae
   refine⟨V,V,G,by simpa using(X.ext aa).aO t,λs=>cr (λf=>?_) aa,λs=>⟨λC=>cr (λf=>?_) aa,λC=>aO V _ ⟨y,bM t aj ?_⟩⟩⟩
   .have:=(u.1 f).2.2.1 G (aq t);simp at s;omega
   .have:=(u.1 f).2.2.1 G (aq t);simp at C;omega
   .simp at s C;omega
  .have ax:∀G∈e.args,0<=G/\G<q.av:=cU V aj
   intro m7 F
   have s8:F.size=I.size+1:=by simp[F,m7,aA]
   have C:J I F:=((J.aF I).aP _).ai (ad _) _ _
   have ac:=aa.trans C
   have al:af F I.size 0=some (.func (.func 99) #[] #[vp A.size 0,vp B.size 0]):=
    (cz.ai (m:=m7) (o:=0) (r:=[.fn (.func 99) #[] #[vp A.size 0,vp B.size 0]]) (cz.push I _ _)).cJ 0
   have aT:=y.size
   clear_value F
   have aL:∀N,J F N->∀t,dz cq 99 [vi t,vp A.size 0,vp B.size 0] N ((l:Int)+1<=t/\t<=(q.bn.length:Int) -1):=λN s t=>by
    rw[<-aC];exact wS (am.ext (y.trans (C.trans s))|>.cJ 0) (ao.ext (y.trans (C.trans s))|>.cJ 4)
   have ka:(e.di.length=0\/e.op=21)->aN cq 59 [O.v P,.func (.func 100) #[] #[vp I.size 0]] F λaP U=>
    eG [E.size,b.size] F U/\∃ag:Bool,aP=vb ag/\(ag=true->∃g:Bool,Value.bool false=.bool g/\(g=true<->iu c q l e)/\J b U)/\
    (ag=false->∃L:Fn×Array Value×Array Value,af U I.size 0=some (.func L.1 L.2.1 L.2.2)/\
    aN cq 101 [.agg #[O.v d,O.v W],.agg #[vi e.op,vi e.dst,vi e.bK,vi e.bW,O.v K,O.v P],.func L.1 L.2.1 L.2.2] U λab M=>
    eG [E.size,b.size] U M/\∃T:Bool,ab=vb T/\((!T)=true->∃g:Bool,Value.bool false=.bool g/\(g=true<->iu c q l e)/\J b M)/\
    ((!T)=false->aN cq 102 [.agg #[O.v d,O.v W],.agg #[vi e.op,vi e.dst,vi e.bK,vi e.bW,O.v K,O.v P]] M λai S=>
    eG [E.size,b.size] M S/\∃Y:Int,∃Z:Int,ai=.tuple #[vi Y,vi Z]/\
    ((decide ((K.len:Int)>=Y))=true->∃g:Bool,Value.bool (decide ((K.len:Int)<=Z))=.bool g/\(g=true<->iu c q l e)/\J b S)/\
    ((decide ((K.len:Int)>=Y))=false->∃g:Bool,Value.bool false=.bool g/\(g=true<->iu c q l e)/\J b S))):=by
    intro aF
    have hl:∀v∈[E.size,b.size],v<F.size:=bN
    refine(my (hj.ext ac) 100 #[] #[vp I.size 0] bh (λt=>¬((l:Int)+1<=t/\t<=(Q.len:Int) -1)) (λt _ N s=>IN (am.ext (y.trans (C.trans s))|>.cJ 0) (ao.ext (y.trans (C.trans s))|>.cJ 4) (s.af al))).aI (J.aF _) hl ?_
    intro v N D s _
    have M:=ac.trans s
    refine⟨v,rfl,λaB=>cr (λf=>?_) M,λaz=>?_⟩
    .let⟨t,ab,g⟩:=D.1 aB
     have:=(u.1 f).2.2.2.2.1 t ab
     exact g V
    have aG:∀t∈e.di,(l:Int)+1<=t/\t<=(q.bn.length:Int) -1:=λt ab=>by
     rcases gW ((l:Int)+1<=t/\t<=(Q.len:Int) -1)with h|h
     .omega
     .exact absurd (D.2 ⟨t,ab,h⟩) (by simp[az])
    refine⟨(.func 99,#[],#[vp A.size 0,vp B.size 0]),s.af al,?_⟩
    have ar:∀v∈[E.size,b.size],v<N.size:=λv D=>s.lt (hl v D)
    refine(GO (bX.ext M hd) ht (oN.ext M hf) (X.ext M) (hj.ext M) 99 #[] #[vp A.size 0,vp B.size 0] bh (λt=>(l:Int)+1<=t/\t<=(q.bn.length:Int) -1) (λR g=>by simpa using aL R (s.trans g) e.bK)).aI (J.aF _) ar ?_
    intro b2 aM ak L _
    have Z:=M.trans L
    refine⟨b2,rfl,λh=>cr (λf=>nb ak h (u.1 f).2.2.2.2.2.1) Z,λh=>?_⟩
    have au:=yb ak h
    have aI:∀v∈[E.size,b.size],v<aM.size:=λv D=>L.lt (ar v D)
    refine(Km (bX.ext Z hd) ht (oN.ext Z hf) (a:=K) (j:=P) au).aI (J.aF _) aI ?_
    rintro _ aU ⟨lo,Y,rfl,R,ai⟩
    have av:=Z.trans ai
    have aK:∀T S,gD c e T S->T=lo/\S=Y:=λT S g=>by
     unfold gD at R g;repeat' (split at R)
     all_goals simp_all
     all_goals (obtain⟨q1,e1,e2,e3⟩:=R;simp_all)
    refine⟨ai,lo,Y,rfl,λh=>fU ?_ av,λh=>cr (λf=>?_) av⟩
    .rw[u]
     simp only[an]at h⊢
     refine⟨λg=>⟨f1,f2,ax,aF,aG,au,λT S h2=>?_⟩,λg=>?_⟩
     .obtain⟨rfl,rfl⟩:=aK T S h2;omega
     .have:=g.2.2.2.2.2.2 lo Y R;omega
    .have:=(u.1 f).2.2.2.2.2.2 lo Y R
     simp at h;omega
   refine⟨λs=>⟨λL=>cr (λf=>?_) ac,λL=>ka (Or.inr (by simpa using L))⟩,λs=>ka (Or.inl (by simp at s;omega))⟩
   have:=(u.1 f).2.2.2.1
   simp at s L;omega
def CY{ah:O}(v:eX b d ah c):dz cq 27 [.agg #[O.v d,O.v ah]] b (El c):=by
 apply xA;simp -zeta only[aE,aD];intro F;have ac:J b F:=(J.aF b).aP _;have s1:F.size=b.size+1:=by simp[F]
 clear_value F;refine(EJ (v.ext ac)).aI (J.aF _) bN ?_;rintro _ M ⟨d',aj,ai,rfl,Y,an,H⟩;refine⟨H,d',aj,ai,rfl,?_⟩;intro m3 t;have s4:t.size=M.size+1:=by simp[t,m3,aA]
 have W:J M t:=((J.aF M).aP _).ai (ad _) _ _;have af:J b t:=(ac.trans H).trans W;have:=H.size;have aJ:=v.cv.len;have aK:=v.cv.fu;clear_value t;refine⟨λhn=>cr (λf=>nb Y hn ⟨f.pB,λq x=>(f.de q x).df⟩) af,λhy=>?_⟩;let⟨D,am⟩:=yb Y hy;obtain⟨rfl,hf⟩:=an (by simpa using hy);refine dZ (n:=c.cv.length) V (λQ z=>J t z/\∀q∈c.cv.take Q,P1 c q) ⟨J.aF _,aH⟩ ?_;rintro Q N aw μ hn ⟨A,X⟩ av
 have K:=af.trans A;refine dit (λaG=>?_) λaC=>?_
 .let⟨q,x⟩:=cg c.cv Q;let⟨R,ag,S,ha,hl,w,g0,g1,g2,g3,g4⟩:=(v.ext K).cv.aO x;refine⟨V,V,R,by simpa using g0,ag,by simpa using g1,_,by simpa using g2,_,by simpa using g3,S,by simpa using g4,?_⟩;intro m6 u;have s7:u.size=N.size+1:=by simp[u,m6,aA]
  have r:J N u:=((J.aF N).aP _).ai (ad _) _ _;have s:=K.trans r;have ay:=ha.len;have az:=w.len;have aB:=w.fu;have o:=aq x;clear_value u;refine⟨λe=>cr (λf=>?_) s,λT=>⟨λe=>cr (λf=>?_) s,λe2=>⟨λe=>cr (λf=>?_) s,λe3=>⟨λe=>cr (λf=>?_) s,λe4=>?_⟩⟩⟩⟩
  .have:=(f.de q o).av;simp at e;split at e<;>omega
  .have:=(f.de q o).av;simp at e;omega
  .have:=(f.de q o).len;simp at e;omega
  .have:=(f.de q o).len;simp at e;omega
  have ab:(q.params.length:Int)<=q.av/\1<=q.av/\q.av<=2000:=by
   simp at T e2;split at T<;>omega
  have al:1<=q.bn.length/\(q.bn.length:Int)<=2000:=by simp at e3 e4;omega
  let⟨E,I⟩:=cg q.bn (q.bn.length -1);obtain⟨a0,j0,_,_,L,_⟩:=(eu.ext r w).aO I;refine⟨λz=>J u z/\(E.op=23\/E.op=24),?_,?_⟩
  .have e:cQ ((S.len:Int) -1)=((q.bn.length -1:Nat):Int):=by rw[aQ V V];omega
   rw[e];refine⟨V,V,E.op,by simpa using L,λg=>⟨λh=>cr (λf=>?_) s,λh=>⟨J.aF _,Or.inr (by simpa using h)⟩⟩,λg=>⟨J.aF _,Or.inl (by simpa using g)⟩⟩;have:=(f.de q o).yP E I;simp at g h;omega
  .rintro m8 ⟨h8,ak⟩;refine dZ (n:=q.bn.length) V (λy z=>J u z/\∀(j:Nat)(h:Instr),j<y->q.bn[j]? =some h->iu c q j h) ⟨h8,λj h C=>V⟩ ?_;rintro y P I2 μ2 hk ⟨m,aa⟩ au;refine dit (λaI=>?_) λaF=>?_
   .let⟨h,g⟩:=cg q.bn y;let⟨xa,xj,ao,ap,L,k1,k2,k3,k4,k5⟩:=(eu.ext (r.trans m) w).aO g;refine⟨V,V,_,by simpa using L,_,by simpa using k1,_,by simpa using k2,_,by simpa using k3,xa,by simpa using k4,xj,by simpa using k5,?_⟩;intro ar G;have aM:G.size=P.size+1:=by simp[G,ar,aA]
    have p:J P G:=((J.aF P).aP _).ai (ad _) _ _;have ae:=(s.trans m).trans p;have q1:=m.size;have q2:=A.size;clear_value G;refine(C1 (ah:=R) (aw:=ag) (bX.ext ae v.bt) D.types (oN.ext (W.trans (A.trans (r.trans (m.trans p)))) hf) D.len.2 (λU B=>(D.de U B).1) (eu.ext (r.trans (m.trans p)) w) ab.2.2 (l:=y) (e:=h) (ao.ext p) (ap.ext p)).aI (J.aF _) bN ?_;intro b' aL Z U _;refine⟨b',rfl,λe=>cr (λf=>nb Z e ((f.de q o).de y h g)) (ae.trans U),λe=>au V _ ⟨m.trans (p.trans U),λj i' C B=>?_⟩⟩;rcases Nat.lt_succ_iff_lt_or_eq.1 C with C|rfl
    .exact aa j i' C B
    .rw[g]at B;simp at B;subst B;exact yb Z e
   .refine av V _ ⟨A.trans (r.trans m),bM x X ⟨am q o,ab,al,λj h g=>aa j h (oh (ax g)) g,λh g=>?_⟩⟩
    rw[I]at g;simp at g;subst g;exact ak
 .exact jr ⟨D,cU V X,bh⟩ K
end
section
variable{m:E}{s:O}{k:Nat}{γ σ:Type}
def OG(m:E)(a:List Ce)(c:bS):Prop:=∃f,a=[.i c.aS,.i c.mK,.s f]/\ap m f c.aL
def JJ(m:E)(a:List Ce)(f:be):Prop:=∃r o h,a=[.i f.dV,.i f.pc,.i f.dst,.s r,.s o,.s h]/\ap m r f.av/\ap m o f.ba/\ap m h f.bA
abbrev cT(m:E)(s:O)(l:List bS):Prop:=eN m 3 (OG m) s l
abbrev lW(m:E)(s:O)(l:List be):Prop:=eN m 6 (JJ m) s l
def OG.ext{m b:E}(g:J m b)(a:List Ce)(c:bS):OG m a c->OG b a c:=λ⟨f,d,e⟩=>⟨f,d,e.ext g⟩
def cT.ext{m b:E}(a:J m b){s:O}{l:List bS}(h:cT m s l):cT b s l:=h.mono a (OG.ext a)
def JJ.ext{m d:E}(a:J m d)(b:List Ce)(c:be):JJ m b c->JJ d b c:=λ⟨r,o,h,e,f,g,i⟩=>⟨r,o,h,e,f.ext a,g.ext a,i.ext a⟩
def lW.ext{m b:E}(a:J m b){s:O}{l:List be}(h:lW m s l):lW b s l:=h.mono a (JJ.ext a)
def cT.aO{l:List bS}(h:cT m s l){x:bS}(c:l[k]? =some x):
 ∃f,ap m f x.aL/\af m s.az (s.off+k*3)=some (vi x.aS)/\af m s.az (s.off+k*3+1)=some (vi x.mK)/\af m s.az (s.off+k*3+2)=some (O.v f):=by
 obtain⟨d,⟨f,rfl,b⟩,a⟩:=h.jC k x c
 exact⟨f,b,a 0 (.i x.aS) rfl,a 1 (.i x.mK) rfl,a 2 (.s f) rfl⟩
def lW.aO{l:List be}(h:lW m s l){x:be}(b:l[k]? =some x):
 ∃r o e,ap m r x.av/\ap m o x.ba/\ap m e x.bA/\af m s.az (s.off+k*6)=some (vi x.dV)/\af m s.az (s.off+k*6+1)=some (vi x.pc)/\af m s.az (s.off+k*6+2)=some (vi x.dst)/\
  af m s.az (s.off+k*6+3)=some (O.v r)/\af m s.az (s.off+k*6+4)=some (O.v o)/\af m s.az (s.off+k*6+5)=some (O.v e):=by
 obtain⟨f,⟨r,o,e,rfl,d,c,a⟩,k8⟩:=h.jC k x b
 exact⟨r,o,e,d,c,a,k8 0 (.i x.dV) rfl,k8 1 (.i x.pc) rfl,k8 2 (.i x.dst) rfl,k8 3 (.s r) rfl,k8 4 (.s o) rfl,k8 5 (.s e) rfl⟩
def _root_.Go.Vc.eN.Gz{l:List Int}(h:eN m 1 UF s l){i:Int}(a:0<=i)(b:i<l.length):af m s.az (s.off+i.toNat*1)=some (vi (aO l i)):=ap.aO h (pJ a b)
structure RV(m:E)(mb o:Nat)(d p bB hp fr:O)(im:cp)(s:St):Prop where
 eS:eX m d p im
 bt:af m mb 0=some (O.v d)
 cv:af m mb 1=some (O.v p)
 cW:af m mb o=some (vi s.cW)
 value:af m mb (o+1)=some (vi s.value)
 bL:af m mb (o+2)=some (vi s.bL)
 eD:af m mb (o+3)=some (vi s.eD)
 aab:af m mb (o+4)=some (O.v bB)
 EF:af m mb (o+5)=some (O.v hp)
 Rb:af m mb (o+6)=some (O.v fr)
 bB:ap m bB s.bB
 heap:cT m hp s.heap
 aj:lW m fr s.aj
def RV.ext{m f:E}{g o:Nat}{d p bB c b:O}{e:cp}{s:St}(h:RV m g o d p bB c b e s)(a:J m f):RV f g o d p bB c b e s:=
 ⟨h.eS.ext a,a.af h.bt,a.af h.cv,a.af h.cW,a.af h.value,a.af h.bL,a.af h.eD,a.af h.aab,a.af h.EF,a.af h.Rb,h.bB.ext a,cT.ext a h.heap,lW.ext a h.aj⟩
def WW(P:Nat->Prop):∀(n:Nat),P n->∃k,P k/\∀j,P j->k<=j:=by
 intro n;induction n using Nat.strongRecOn with
 |_ n e=>
  intro b;rcases gW (∃j,j<n/\P j)with⟨j,a,d⟩|c
  .exact e j a d
  .exact⟨n,b,λj a=>eT λh=>c ⟨j,V,a⟩⟩
def AW{p:σ}{j:(σ->E->Prop)->(σ->E->Nat)->σ->E->Prop}(J:γ->σ->E->Prop)(ν:γ->Nat)(l:γ)(r:J l p m)
 (q:∀(g:γ)(s:σ)(a:E)(I:σ->E->Prop)(μ:σ->E->Nat),J g s a->(∀b d c,J b d c->ν b<ν g->I d c/\μ d c<μ s a)->j I μ s a):
 ∃(I:σ->E->Prop)(μ:σ->E->Nat),I p m/\∀s a,I s a->j I μ s a:=by
 classical
 let I:σ->E->Prop:=λs m=>∃g,J g s m
 have h:∀s m,I s m->∃k,(∃g,J g s m/\ν g=k)/\∀o,(∃g,J g s m/\ν g=o)->k<=o:=λs m⟨g,i⟩=>WW _ (ν g) ⟨g,i,rfl⟩
 let μ:σ->E->Nat:=λs m=>if e:I s m then Classical.choose (h s m e)else 0
 refine⟨I,μ,⟨l,r⟩,λs a e=>?_⟩
 let⟨g,i,u⟩:=(fy (h s a e)).1
 refine q g s a I μ i λb d c f t=>⟨⟨b,f⟩,?_⟩
 have n:I d c:=⟨b,f⟩
 simp only[μ,Su e,Su n]
 exact mW ((fy (h d c n)).2 _ ⟨b,f,rfl⟩) (u▸t)
def RC{τ:Type}{i:σ}{j:τ}{h:(σ->τ->E->Prop)->(σ->τ->E->Nat)->σ->τ->E->Prop}(J:γ->σ->τ->E->Prop)(ν:γ->Nat)(k:γ)(n:J k i j m)
 (l:∀(g:γ)(s:σ)(t:τ)(a:E)(I:σ->τ->E->Prop)(μ:σ->τ->E->Nat),J g s t a->(∀f d e c,J f d e c->ν f<ν g->I d e c/\μ d e c<μ s t a)->h I μ s t a):
 ∃(I:σ->τ->E->Prop)(μ:σ->τ->E->Nat),I i j m/\∀s t a,I s t a->h I μ s t a:=by
 let⟨I,μ,o,p⟩:=AW (σ:=σ×τ) (p:=(i,j)) (j:=λI μ b a=>h (λs t=>I (s,t)) (λs t=>μ (s,t)) b.1 b.2 a) (λg b m=>J g b.1 b.2 m) ν k n (λg b a I μ q r=>l g b.1 b.2 a (λs t=>I (s,t)) (λs t=>μ (s,t)) q λf d e c=>r f (d,e) c)
 exact⟨λs t=>I (s,t),λs t=>μ (s,t),o,λs t=>p (s,t)⟩
end
section
variable{m g:E}{s d p a j t o e:O}{b r:List Int}{f:Nat}{K:Value->E->Prop}{c:cp}{x:Instr}
def _root_.Go.Vc.eN.sJ(h:eN m 1 UF s b):gP m s.az s.off (b.map Ce.i):=λi d a=>by
 rw[bR]at a;obtain⟨x,c,rfl⟩:=Option.map_eq_some_iff.1 a;have:=ap.aO h c;rw[cO]at this;exact this
def mQ(f:Nat)(c:List Value)(m:E)(b:List Int):Prop:=aN cq f c m λv a=>∃s,v=O.v s/\fZ m a ay 1 s (b.map Ce.i)/\J m a
def mQ.then{c:List Value}(h:mQ f c m b)(i:b.length<=1000000000)(e:∀s a,fZ m a ay 1 s (b.map Ce.i)->ap a s b->J m a->K (O.v s) a):aN cq f c m K:=
 h.mono λ_ _⟨s,d,a,g⟩=>d▸e s _ a (ap.fP a V) g
def mQ.aI{c:List Value}{d:List Nat}(h:mQ f c m b)(l:b.length<=1000000000)(i:∀a∈d,a<m.size)(k:∀s a,fZ m a ay 1 s (b.map Ce.i)->ap a s b->J m a->K (O.v s) a):aN cq f c m λv a=>eG d m a/\K v a:=
 h.mono λ_ _⟨s,j,e,g⟩=>⟨g.da i,j▸k s _ e (ap.fP e V) g⟩
def dJ(w:Int)(m:E):dz cq 92 [vi w] m (1000<=w):=by
 apply zK;exact fU aH (J.aF _)
def gR{a:O}{h:List bS}(j:cT m a h){w:Int}(C: -9223372036854775808<=w/\w<=9223372036854775807):dz cq 51 [O.v a,vi w] m (gZ h w):=by
 apply FC;have z:=j.len;have A:=j.fu;have o:cQ ((a.len:Int) -1)=(a.len:Int) -1:=aQ V V;rw[o];have x:cQ (w -1000)=w -1000\/(w<1000/\¬(0<=cQ (w -1000)/\cQ (w -1000)<=(a.len:Int) -1))\/(w<1000/\cQ (w -1000)=w -1000+18446744073709551616):=by
  rcases gW (-9223372036854775808<=w -1000)with b|b
  .exact Or.inl (aQ b V)
  .refine Or.inr (Or.inr ⟨V,?_⟩);simp only[cQ,IntKind.wrap,IntKind.signed,IntKind.bits];simp;omega
 refine(aY _ _ _ _).then λn D i b=>⟨n,rfl,λu=>?_,λt=>?_⟩
 .refine(dJ _ _).then λb2 E l g=>⟨b2,rfl,λs=>?_,λr=>cr (λc=>fb l r c.1) (b.trans g)⟩;have k:=l.1 s;have p:cQ (w -1000)=w -1000:=aQ V V;rw[p]at i⊢;have B:=i.1 u;let⟨e,c⟩:=cg h ((w -1000).toNat);obtain⟨f,y,q,_⟩:=(cT.ext (b.trans g) j).aO c;refine⟨V,V,e.aS,q,fU ?_ (b.trans g)⟩;simp only[gJ,an];refine⟨λa=>⟨k,e,c,a⟩,λ⟨_,v,d,a⟩=>?_⟩;unfold ix at d;rw[c]at d;simp at d;subst d;exact a
 .refine cr (λ⟨k,e,c,_⟩=>fb i t ?_) b;have:=ax c;unfold ix at this;rw[aQ V V];omega
def Lb(a:Int)(m:E):dz cq 167 [vi a] m (vX a):=by
 apply FA;refine⟨λh=>jr ?_ (J.aF _),λh=>⟨λb=>jr ?_ (J.aF _),λb=>fU ?_ (J.aF _)⟩⟩<;>simp[vX]at* <;>omega
def TD{q:cZ}(a:c.cv[x.bK.toNat]? =some q)(k:Nat):nN c x k=true<->(k:Int)∈q.df:=by
 simp[nN,dm,a,List.any_eq_true]
def CL(c:cp)(x:Instr):Prop:=(x.op=9\/x.op=24)->0<=x.bK/\∃q,c.cv[x.bK.toNat]? =some q
def iu.call{p:cZ}{k:Nat}(h:iu c p k x):CL c x:=λe=>by
 have a:=h.op;unfold kM at a;rw[ae V,ae V,ae V,ae V,ak e]at a;obtain⟨q,b,d,_⟩:=a;exact⟨b,q,d⟩
def rj(h:eX m d p c)(z:CL c x)(a j:O)(k:Nat):
 dz cq 206 [.agg #[O.v d,O.v p],.agg #[vi x.op,vi x.dst,vi x.bK,vi x.bW,O.v a,O.v j],vi k] m ((x.op=9\/x.op=24)/\nN c x k=true):=by
 apply DE
 simp -zeta only[aE,aD]
 intro o b
 have n:J m b:=((J.aF m).aP _).aP _
 have A:∀f∈[o.size,m.size],f<b.size:=by simp[b,o];omega
 have L:=h.cv.len
 clear_value b
 have q:∀e:x.op=9\/x.op=24,(0:Int)<=x.bK/\x.bK<(p.len:Int)/\∃u:O,af b p.az (p.off+Int.toNat x.bK*5+1)=some (O.v u)/\
  aN cq 30 [O.v u,vi k] b λr s=>eG [o.size,m.size] b s/\∃t:Bool,r=vb t/\∃f:Bool,vb t=.bool f/\(f=true<->((x.op=9\/x.op=24)/\nN c x k=true))/\J m s:=λe=>by
  let⟨v,N,l⟩:=z e
  let⟨D,C,E,I,B,K,F,g1,g2,G,H⟩:=(h.ext n).cv.aO l
  have:=ax l
  refine⟨v,V,C,g1,(dg B _).aI (J.aF _) A λf M y w _=>⟨f,rfl,fU ?_ (n.trans w)⟩⟩
  rw[y,TD l]
  exact⟨λh=>⟨e,h⟩,λh=>h.2⟩
 refine⟨λi=>q (Or.inl (by simpa using i)),λi=>⟨λg=>q (Or.inr (by simpa using g)),λg=>cr (λ⟨e,_⟩=>?_) n⟩⟩
 simp at i g;omega
def Ho(a:Int)(m:E):dz cq 205 [vi a] m (a=6\/a=9\/a=10\/a=11):=by
 apply rG;refine⟨λh=>jr ?_ (J.aF _),λh=>⟨λb=>jr ?_ (J.aF _),λb=>⟨λc=>jr ?_ (J.aF _),λc=>fU ?_ (J.aF _)⟩⟩⟩<;>simp at* <;>omega
def qS(c:cp)(x:Instr)(n:Nat):List Int:=jA c x 0 (x.args.take n)
def CF(c:cp)(x:Instr):∀(b r:List Int)(k:Nat),jA c x k (b++r)=jA c x k b++jA c x (k+b.length) r
 |[],r,k=>by simp[jA]
 |a::b,r,k=>by
  have:=CF c x b r (k+1);simp only[db,jA,this,aW];have e:k+(b.length+1)=k+1+b.length:=V;rw[e];split<;>simp
def Eb(c:cp)(x:Instr):∀(b:List Int)(k:Nat),(jA c x k b).length<=b.length
 |[],k=>ad _
 |a::b,k=>by
  have:=Eb c x b (k+1);simp only[jA];split<;>simp<;>omega
def Si(c:cp)(x:Instr):(dF c x).length<=x.args.length:=by
 unfold dF;split
 .exact ad _
 split
 .simp;omega
 split
 .exact Eb _ _ _ _
 .simp
def J.Bc{a c:E}(f:J g a)(h:J g c){b:List Nat}(d:∀x∈b,x<g.size):eG b a c:=λx e=>by rw[f.same x (d x e),h.same x (d x e)]
def ms{v:Int}{K:O->E->Prop}(c:fZ g m ay 1 s (b.map Ce.i))(h:J g m)(n:b.length<1000000000)
 (f:∀r a,fZ g a ay 1 r ((b++[v]).map Ce.i)->J g a->K r a):
 jb (m.push (.cells (bD [.i v]) ay)) ay [.i (0:Int)] 8 s (O.mk m.size 0 1 1) K:=by
 have o:s.len=b.length:=by have:=c.len;simp at this;omega
 refine fZ.append (zs:=[.i 0]) (d:=[.i v]) (c.ext (J.push _ _)) (h.aP _) rfl (cz.push m _ _).jC bN λr a d e i j k l=>?_
 exact f r a (by simpa using d) e
def Ju(aa:eX m d p c)(hc:CL c x)(I:ap m a x.args)(al:x.args.length<=1000000)(ab:(x.op=16\/x.op=17)->1<=x.args.length):
 mQ 169 [.agg #[O.v d,O.v p],.agg #[vi x.op,vi x.dst,vi x.bK,vi x.bW,O.v a,O.v j]] m (dF c x):=by
 apply DR
 simp -zeta only[aE,aD]
 intro C f Q
 have B:J m f:=((J.aF m).aP _).aP _
 have s2:f.size=m.size+2:=by simp[f,C]
 have h3:J f Q:=(J.aF f).aP _
 have u:fZ f Q ay 1 (.mk f.size 0 0 0) []:=fZ.new (J.aF f) ay 1 [] 0 aH
 have s1:C.size=m.size+1:=by simp[C]
 have ah:=I.len
 have w:∀v∈[C.size,m.size],v<f.size:=λv t=>by simp at t;omega
 clear_value Q
 clear_value f
 have K:∀{o s b},fZ f o ay 1 s b->fZ m o ay 1 s b:=λu=>u.cG B.size
 refine⟨λZ o=>J f o/\fZ f o ay 1 (.mk f.size 0 0 0) []/\(Z=true<->(x.op=15\/x.op=6\/x.op=10\/x.op=11\/x.op=18\/x.op=23\/x.op=9\/x.op=24)),?_,?_⟩
 .refine(Ho _ _).aI h3 w λv D t g i=>⟨v,rfl,λM=>⟨i,u.ext g,by have:=t.1 M;simp;omega⟩,λL=>?_⟩
  have h:=fb t L
  refine⟨λe=>⟨i,u.ext g,by simp at e;simp;omega⟩,λH=>⟨λe=>⟨i,u.ext g,by simp at e;simp;omega⟩,λq=>⟨λe=>⟨i,u.ext g,by simp at e;simp;omega⟩,λA=>⟨i,u.ext g,by simp at H q A;simp;omega⟩⟩⟩⟩
 .rintro Z D ⟨g,N,W⟩
  refine⟨λad=>?_,λac=>?_⟩
  .have hT:=W.1 ad
   refine dx (n:=x.args.length) V (λk s o=>J f o/\fZ f o ay 1 s ((if x.op=9\/x.op=24 then qS c x k else x.args.take k).map Ce.i)) ⟨g,by simpa[qS,jA]using N⟩ ?_
   rintro k s m5 ag μ hk ⟨R,P⟩ Y
   have X:=B.trans R
   refine dit (λaj=>?_) λai=>?_
   .let⟨y,h⟩:=cg x.args k
    have U:qS c x (k+1)=qS c x k++jA c x k [y]:=by
     unfold qS;rw[bC h,CF];simp;congr 2;omega
    refine(rj (aa.ext X) hc a j k).aI R w λv m6 t S F=>⟨v,rfl,λM=>?_,λL=>?_⟩
    .have G:=nb t M
     refine⟨V,V,y,by simpa using(I.ext (B.trans F)).aO h,?_⟩
     intro m7
     have T:(if x.op=9\/x.op=24 then qS c x k else x.args.take k).length<=k:=by
      split
      .refine bH (Eb _ _ _ _) ?_;simp;omega
      .simp;omega
     refine ms (P.ext S) F V λr m8 z E=>?_
     refine⟨J.Bc (F.aP _) E w,Y V _ _ ⟨E,?_⟩⟩
     by_cases e:x.op=9\/x.op=24
     .rw[ak e]at z⊢
      rw[U]
      have:jA c x k [y]=[y]:=by
       simp only[jA];rw[ae (λw=>G ⟨e,w⟩)]
      rw[this];exact z
     .rw[ae e]at z⊢
      rw[bC h];exact z
    .have G:=yb t L
     refine Y V _ _ ⟨F,?_⟩
     have T:=P.ext S
     rw[ak G.1]at T⊢
     rw[U]
     have:jA c x k [y]=[]:=by
      simp only[jA];rw[ak G.2]
     rw[this,dD];exact T
   .refine⟨s,rfl,?_,X⟩
    have q:dF c x=if x.op=9\/x.op=24 then qS c x k else x.args.take k:=by
     have A:x.args.take k=x.args:=cy V;unfold dF qS;rw[A];by_cases e:x.op=9\/x.op=24
     .rw[ae V,ae V,ak e,ak e]
     .rw[ak V,ae e]
    rw[q];exact K P
  .have hT:¬(x.op=15\/x.op=6\/x.op=10\/x.op=11\/x.op=18\/x.op=23\/x.op=9\/x.op=24):=λe=>by have:=W.2 e;rw[ac]at this;simp at this
   have i:=B.trans g
   have ln:∀e:x.op=16\/x.op=17,(0:Int)<=(0:Int)/\(0:Int)<(a.len:Int)/\∃F:Int,af D a.az (a.off+Int.toNat (0:Int)*1)=some (vi F)/\
    jb (D.push (.cells (bD [.i F]) 3)) 3 [.i (0:Int)] 8 (O.mk f.size 0 0 0) (O.mk D.size 0 1 1) λL k=>eG [C.size,m.size] (D.push (.cells (bD [.i F]) 3)) k/\∃s,O.v L=O.v s/\fZ m k ay 1 s ((dF c x).map Ce.i)/\J m k:=λe=>by
    have M:=ab e
    let⟨y,h⟩:=cg x.args 0
    refine⟨V,V,y,by simpa using(I.ext i).aO h,ms (b:=[]) N g aH λr m8 z E=>⟨J.Bc (g.aP _) E w,r,rfl,?_,B.trans E⟩⟩
    have q:dF c x=[y]:=by
     unfold dF;rw[ae V,ak e];cases G:x.args with
     |nil=>rw[G]at h;simp at h
     |cons P b=>rw[G]at h;simp at h;subst h;rfl
    rw[q];exact K z
   refine⟨λe=>ln (Or.inl (by simpa using e)),λH=>⟨λe=>ln (Or.inr (by simpa using e)),λq=>⟨_,rfl,?_,i⟩⟩⟩
   have A:dF c x=[]:=by
    simp at H q;unfold dF;rw[ae V,ae V,ae V]
   rw[A];exact K N
def fE(c:ap m s b)(l:b.length<=1000000000):mQ 50 [O.v s] m b:=by
 apply mS;intro d;have a:J m d:=(J.aF m).aP _;have g:fZ m d ay 1 (.mk m.size 0 0 0) []:=fZ.new (J.aF m) ay 1 [] 0 aH;have f:=c.len;refine fZ.append (zs:=[.i 0]) (d:=b.map Ce.i) g a (by simp[f]) (c.ext a).sJ bN λr n a e h i j k=>⟨r,rfl,by simpa using a,e⟩
def KZ(h:ap m s b)(c:ap m t r)(p:b.length+r.length<=1000000000):mQ 106 [O.v s,O.v t] m (b++r):=by
 apply tY;refine(fE h V).then V λq w d e a=>⟨q,rfl,?_⟩;have i:=c.len;have o:=e.len;refine fZ.append (zs:=[.i 0]) (d:=r.map Ce.i) d a (by simp[i]) (c.ext a).sJ V λu v f g j k l n=>⟨u,rfl,by simpa using f,g⟩
def lJ(d:ap m s b):dz cq 136 [O.v s] m (UJ b):=by
 apply Dl;have g:=d.len;refine dZ (n:=b.length) (g▸d.fu) (λk a=>J m a/\∀y∈b.take k,y=0) ⟨J.aF _,aH⟩ ?_;rintro k o I μ l ⟨a,f⟩ j
 refine⟨λh=>?_,λh=>jr (cU (by simp at h;omega) f) a⟩;simp only[an]at h;let⟨x,e⟩:=cg b k;refine⟨V,V,x,by simpa using a.af (d.aO e),λc=>cr (λi=>?_) a,λc=>j V _ ⟨a,bM e f (by simpa using c)⟩⟩;have:=i x (aq e);simp at c;omega
def zV(d:ap m s b):dz cq 207 [O.v s] m (∀o∈b,0<=o):=by
 apply vA;have g:=d.len;refine dZ (n:=b.length) (g▸d.fu) (λk a=>J m a/\∀y∈b.take k,0<=y) ⟨J.aF _,aH⟩ ?_;rintro k p I μ l ⟨a,f⟩ j
 refine⟨λh=>?_,λh=>jr (cU (by simp at h;omega) f) a⟩;simp only[an]at h;let⟨x,e⟩:=cg b k;refine⟨V,V,x,by simpa using a.af (d.aO e),λc=>cr (λi=>?_) a,λc=>j V _ ⟨a,bM e f (by simpa using c)⟩⟩;have:=i x (aq e);simp at c;omega
def p7(f:ap m s b)(j:ap m t r):dz cq 243 [O.v s,O.v t] m (b=r):=by
 apply BZ;have l:=f.len;have q:=j.len;refine⟨λh=>cr (λe=>by subst e;simp at h;omega) (J.aF _),λh=>?_⟩;simp at h;refine dZ (n:=b.length) (l▸f.fu) (λk a=>J m a/\b.take k=r.take k) ⟨J.aF _,aH⟩ ?_;rintro k u I μ p ⟨c,i⟩ o
 refine⟨λh=>?_,λh=>jr (by simp at h;rwa[cy V,cy V]at i) c⟩;simp only[an]at h;let⟨x,g⟩:=cg b k;let⟨y,d⟩:=cg r k;refine⟨V,V,x,by simpa using c.af (f.aO g),V,V,y,by simpa using c.af (j.aO d),λa=>cr (λe=>?_) c,λa=>o V _ ⟨c,?_⟩⟩
 .subst e;rw[g]at d;simp at d;simp at a;exact a d
 .rw[bC g,bC d,i];simp at a;rw[a]
abbrev fv(f:be)(r o h:O):Value:=.agg #[vi f.dV,vi f.pc,vi f.dst,O.v r,O.v o,O.v h]
abbrev xv(x:Instr)(a j:O):Value:=.agg #[vi x.op,vi x.dst,vi x.bK,vi x.bW,O.v a,O.v j]
def Dk{f:be}{r:O}(t:ap m r f.av)(g:ap m a x.args)(C:∀y∈x.args,0<=y/\y<f.av.length):
 dz cq 208 [fv f r o e,xv x a j] m (∀y∈x.args,aO f.av y<1000):=by
 apply xH
 simp -zeta only[aE,aD]
 intro w b
 have v:J m b:=((J.aF m).aP _).aP _
 have D:∀d∈[w.size,m.size],d<b.size:=by simp[b,w];omega
 have z:=g.len
 have K:=t.len
 clear_value b
 refine dZ (n:=x.args.length) (z▸g.fu) (λl c=>J b c/\∀y∈x.args.take l,aO f.av y<1000) ⟨J.aF _,aH⟩ ?_
 rintro l L I μ H ⟨u,s⟩ F
 have i:=v.trans u
 refine⟨λh=>?_,λh=>jr (cU (by simp at h;omega) s) i⟩
 simp only[an]at h
 let⟨y,c⟩:=cg x.args l
 have k:=C y (aq c)
 refine⟨V,V,y,by simpa using i.af (g.aO c),k.1,V,aO f.av y,by simpa using i.af (t.Gz k.1 k.2),?_⟩
 refine(dJ _ _).aI u D λd M q G p=>⟨d,rfl,λB=>cr (λE=>?_) (v.trans p),λA=>F V _ ⟨p,bM c s ?_⟩⟩
 .have:=E y (aq c);have:=q.1 B;omega
 .have:=fb q A;omega
def Iy(b r:List Int):rc (b++r)=rc b++rc r:=by simp[rc]
def sI(b:List Int):(rc b).length<=b.length:=il _ _
def nT(f:ap m s b)(A:b.length<=100000000):mQ 242 [O.v s] m (rc b):=by
 apply xU;intro g;have p:J m g:=(J.aF m).aP _;have u:fZ m g ay 1 (.mk m.size 0 0 0) []:=fZ.new (J.aF m) ay 1 [] 0 aH;have z:=f.len;clear_value g;refine dx (n:=b.length) V (λk s a=>J m a/\fZ m a ay 1 s ((rc (b.take k)).map Ce.i)) ⟨p,by simpa[rc]using u⟩ ?_;rintro k s B I μ y ⟨d,c⟩ j
 refine dit (λo=>?_) λo=>?_
 .let⟨x,e⟩:=cg b k;refine⟨V,V,x,by simpa using d.af (f.aO e),?_⟩;refine(dJ _ _).then λl C h a=>⟨l,rfl,λt=>?_,λq=>?_⟩
  .have i:=d.trans a;refine⟨V,V,x,by simpa using i.af (f.aO e),?_⟩;intro D;refine ms (c.ext a) i (by have:=sI (b.take k);simp at this;omega) λr E v w=>j V _ _ ⟨w,?_⟩
   rw[bC e,Iy];have:rc [x]=[x]:=by simp[rc,h.1 t]
   rw[this];exact v
  .refine j V _ _ ⟨d.trans a,?_⟩
   rw[bC e,Iy];have:rc [x]=[]:=by simp[rc];have:=fb h q;omega
   rw[this,dD];exact c.ext a
 .rw[cy V]at c;exact⟨s,rfl,c,d⟩
def nC{f:be}{r:O}(l:ap m r f.av)(p:ap m s b)(x:∀y∈b,0<=y/\y<f.av.length)(G:b.length<=100000000):
 mQ 54 [fv f r o e,O.v s] m (dB f b):=by
 apply D0
 simp -zeta only[aE,aD]
 intro a j
 have q:J m a:=(J.aF m).aP _
 have w:J a j:=(J.aF a).aP _
 have A:fZ a j ay 1 (.mk a.size 0 0 0) []:=fZ.new (J.aF a) ay 1 [] 0 aH
 have z:∀u∈[m.size],u<a.size:=by simp[a]
 have F:=p.len
 have E:=l.len
 clear_value j
 clear_value a
 refine dx (n:=b.length) V (λk s c=>J a c/\fZ a c ay 1 s ((dB f (b.take k)).map Ce.i)) ⟨w,by simpa[dB]using A⟩ ?_
 rintro k s H I μ D ⟨d,c⟩ B
 have g:=q.trans d
 refine dit (λv=>?_) λv=>?_
 .let⟨y,h⟩:=cg b k
  have i:=x y (aq h)
  refine⟨V,V,y,by simpa using g.af (p.aO h),i.1,V,aO f.av y,by simpa using g.af (l.Gz i.1 i.2),?_⟩
  intro K
  refine ms c d (by simp[dB];omega) λM L C t=>⟨J.Bc (d.aP _) t z,B V _ _ ⟨t,?_⟩⟩
  rw[bC h]
  simpa[dB]using C
 .rw[cy V]at c
  exact⟨s,rfl,c.cG q.size,g⟩
end
section
variable{g:E}{b:be}{t v d p h u j:O}{s:St}{c:List Int}{q:Nat}{k:cp}{w:Int}{e:Nat->Int}{x:Instr}
variable{B:Int}
def HK{e:O}(Q:ap g t b.av)(ho:ap g v b.ba){s:O}(D:ap g s c)(ad:∀y∈c,0<=y/\y<b.av.length)(an:b.av.length=b.ba.length)(az:b.ba.length<=1000000)(aw:c.length<=1000000)
 (M:∀w∈b.ba,-1000000000<=w/\w<=1000000000):mQ 168 [fv b t v e,O.v s] g (dK b.av b.ba c):=by
 apply BT
 simp -zeta only[aE,aD]
 intro p
 have E:J g p:=(J.aF g).aP _
 have H:∀G∈[g.size],G<p.size:=by simp[p]
 have ax:=D.len
 have av:=Q.len
 clear_value p
 refine(fE (ho.ext E) V).aI V H λx m2 o2 i2 Y=>⟨x,rfl,?_⟩
 have P:=i2.len
 have ku:∀(d F ba:List Int),dK b.av ba (d++F)=dK b.av (dK b.av ba d) F:=by
  intro d;induction d with
  |nil=>intro F ba;rfl
  |cons y d k=>intro F ba;simp only[db,dK,k]
 have lo:∀(d ba:List Int)(A:Int),(∀w∈ba,A<=w)->∀w∈dK b.av ba d,A -d.length<=w:=by
  intro d;induction d with
  |nil=>intro ba A h w q;have:=h w q;simp;omega
  |cons y d k=>
   intro ba A h w q;simp only[dK]at q;have:=k _ (A -1) (λu j=>by
    split at j
    .rcases gW (y.toNat<ba.length)with B|B
     .rcases sF j with j|j
      .have:=h _ (iV (i:=y.toNat) (a:=aO ba y) (by obtain⟨C,z⟩:=dI B;rw[NF z];exact z));omega
      .have:=h u j;omega
     .have z:iF ba y (aO ba y -1)=ba:=by unfold iF;rw[Ef V]
      rw[z]at j;have:=h u j;omega
    .have:=h u j;omega) w q
   simp only[aW];omega
 refine dZ (n:=c.length) V (λk j=>J p j/\fZ p j ay 1 x ((dK b.av b.ba (c.take k)).map Ce.i)) ⟨Y,o2⟩ ?_
 rintro k m3 aj μ hk ⟨R,C⟩ U
 have K:=E.trans R
 refine dit (λh=>?_) λh=>?_
 .let⟨y,u⟩:=cg c k
  have j:=ad y (aq u)
  have ao:=qR b.av (c.take k) b.ba
  refine⟨V,V,y,by simpa using K.af (D.aO u),j.1,V,aO b.av y,by simpa using K.af (Q.Gz j.1 j.2),?_⟩
  refine(dJ _ _).aI R H λG T N L B=>⟨G,rfl,λab=>?_,λZ=>?_⟩
  .have S:=E.trans B
   have I:=C.ext L
   have i4:ap T x (dK b.av b.ba (c.take k)):=ap.fP I V
   refine⟨V,V,y,by simpa using S.af (D.aO u),V,V,y,by simpa using S.af (D.aO u),j.1,V,aO (dK b.av b.ba (c.take k)) y,i4.Gz j.1 V,j.1,V,?_⟩
   have au:=lo (c.take k) b.ba (-1000000000) (λw q=>(M w q).1) _ (iL (l:=dK b.av b.ba (c.take k)) j.1 V)
   have al:aO (dK b.av b.ba (c.take k)) y<=1000000000:=by
    let⟨q',ai,am⟩:=sY (c.take k) b.ba y.toNat _ (pJ (l:=dK b.av b.ba (c.take k)) j.1 V);have:=(M q' (aq ai)).2;omega
   have ar:(c.take k).length<=1000000:=bN
   rw[aQ V V]
   rcases I.aO with ag|⟨q,X,tail,z,e2,e3,e4,e5⟩
   .rw[ag]at P;simp at P;omega
   .have ah:x.off=0:=by rw[z];rfl
    have aa:x.az=q:=by rw[z];rfl
    rw[ah,aa]
    have ac:0+y.toNat*1=y.toNat:=V
    rw[ac]
    have af:y.toNat<((dK b.av b.ba (c.take k)).map Ce.i).length:=bN
    refine⟨e3.fg (by simp only[aT];omega),?_⟩
    intro m5
    have W:J p m5:=B.ai e2 _ _
    refine⟨J.Bc B W H,U V _ ⟨W,?_⟩⟩
    rw[bC u,ku]
    simp only[dK,ak (N.1 ab)]
    refine⟨by rw[dO,kd,<-dO (f:=Ce.i)];exact I.len,Or.inr ⟨q,X,tail,z,e2,?_,?_,e5⟩⟩
    .have:=cz.ai (m:=T) (o:=y.toNat) (r:=[.i (aO (dK b.av b.ba (c.take k)) y -1)]) e3
     have z:iO ((dK b.av b.ba (c.take k)).map Ce.i++tail) y.toNat [.i (aO (dK b.av b.ba (c.take k)) y -1)]=(iF (dK b.av b.ba (c.take k)) y (aO (dK b.av b.ba (c.take k)) y -1)).map Ce.i++tail:=by
      simp only[iO,iF,tg];rw[Zc _ _ af]
     rw[z]at this;exact this
    .simp only[aT,dO,kd]at e4⊢;exact e4
  .refine U V _ ⟨B,?_⟩
   rw[bC u,ku]
   simp only[dK,ae (fb N Z)]
   exact C.ext L
 .rw[cy V]at C
  exact⟨x,rfl,C.cG E.size,K⟩
def fC{bB t x:O}(a:RV g q 2 d p bB t x k s)(L:1000<=w){c:bS}(j:s.heap[ix w]? =some c):
 aN cq 212 [vp q 0,vi w] g λD v=>∃b,D=.agg #[vi c.aS,vi c.mK,O.v b]/\ap v b c.aL/\J g v:=by
 apply tx (q,0)
 simp -zeta only[aE,aD]
 intro B
 have f:J g B:=(J.aF g).aP _
 have l:=cT.ext f a.heap
 let⟨b,G,r,g1,g2⟩:=l.aO j
 have I:=l.len
 have K:=l.fu
 have A:=ax j
 unfold ix at A r g1 g2
 have e:cQ (w -1000)=w -1000:=aQ V V
 rw[e]
 refine⟨t,f.af a.EF,V,V,c.aS,r,c.mK,g1,b,g2,?_⟩
 intro C
 have m:J g C:=f.ai (ad _) _ _
 let⟨o,y,M,N,u⟩:=(cT.ext m a.heap).aO j
 unfold ix at u
 have z:o=b:=by
  have F:=f.af (a.EF);obtain⟨E,H,_,_,n⟩:=a.heap.aO j;unfold ix at n;have h:=f.af n;have i:=m.af n;rw[g2]at h;rw[u]at i;simp at h i;rw[O.IE]at h i;rw[h,i]
 subst z
 exact⟨o,rfl,y,m⟩
def tX{bB L D:O}(C:RV g q 2 d p bB L D k s)(G:fQ s.heap e){B:O}(o:ap g B c)(I:∀w∈c,gZ s.heap w)(Y:c.length<=1000000):
 dz cq 241 [vp q 0,O.v B] g (nW s.heap c):=by
 apply rp (q,0)
 have X:=o.len
 refine dZ (n:=c.length) V (λr a=>J g a/\∀w∈c.take r,1000<=w->(aZ s.heap w).aS+eK c (ix w)<=999999) ⟨J.aF _,aH⟩ ?_
 rintro r Z P μ T ⟨y,v⟩ N
 refine⟨λh=>?_,λh=>jr (cU (by simp at h;omega) v) y⟩
 simp only[an]at h
 let⟨x,l⟩:=cg c r
 have m:=I x (aq l)
 have M:=iC m.1
 refine dx (n:=c.length) V (λj(z:Int) a=>J g a/\z=eK (c.take j) (ix x)) ⟨y,by simp[eK]⟩ ?_
 rintro j z m2 Q μ2 S ⟨f,rfl⟩ A
 refine dit (λE=>?_) λE=>?_
 .let⟨u,t⟩:=cg c j
  have K:=kA (c.take j) (ix x)
  have H:=iA (c.take j) (ix x)
  have F:(c.take j).length<=1000000:=bN
  have i:eK (c.take (j+1)) (ix x)=eK (c.take j) (ix x)+if u=x then 1 else 0:=by
   rw[bC t,nP];simp only[eK,M];omega
  refine⟨V,V,u,by simpa using f.af (o.aO t),V,V,x,by simpa using f.af (o.aO l),λa=>A V _ _ ⟨f,?_⟩,λa=>A V _ _ ⟨f,?_⟩⟩
  .simp at a;rw[i,ak a];exact aQ V V
  .simp at a;rw[i,ae a];omega
 .rw[cy V]
  have K:=kA c (ix x)
  have H:=iA c (ix x)
  let⟨u,W⟩:=cw m
  have U:=(G.cell _ (aq u)).hi
  refine⟨V,V,x,by simpa using f.af (o.aO l),?_⟩
  refine(fC (C.ext f) m.1 u).mono ?_
  rintro _ m3 ⟨b,rfl,R,a⟩
  have t:cQ ((aZ s.heap x).aS+eK c (ix x))=(aZ s.heap x).aS+eK c (ix x):=aQ V V
  refine⟨_,_,_,rfl,λi=>cr (λF=>?_) (f.trans a),λi=>N V _ ⟨f.trans a,bM l v λ_=>?_⟩⟩
  .have:=F x (aq l) m.1
   rw[t]at i;simp at i;omega
  .rw[t]at i;simp at i;omega
def sA{h:List bS}:nW h (rc c)<->nW h c:=by
 unfold nW;constructor
 .intro b w d a;have:=b w (nk.2 ⟨d,a⟩) a;rwa[uZ]at this
 .intro b w d a;rw[uZ];exact b w (nk.1 d).1 a
def Ya{s:O}(h:ap g s c)(p:1<=c.length):ap g (O.cut s 1 s.len 1) (c.drop 1):=by
 have b:=h.len;have i:=h.cap;have l:=h.fu;cases s with
 |nil=>simp at b;omega
 |CT d v a=>simp at b;omega
 |mk d v r o=>
  simp at b i l;refine⟨by simp[O.cut];omega,by simp[O.cut];omega,by simp[O.cut];omega,λn x a=>?_⟩;rw[ry]at a;have q:=ax a;let⟨f,j,k8⟩:=h.jC (1+n) x a;refine⟨f,j,λm e k=>?_⟩;have:=k8 m e k;simp only[O.cut,O.fG,O.iY]at this⊢;rw[ae V];rw[<-this];congr 1;omega
def gF.va(h:gF k b){t:Int}(d:0<=t)(e:t<b.av.length)(f:∀w∈b.av,w<=9223372036854775807): -9223372036854775808<=aO b.av t/\aO b.av t<=9223372036854775807:=by
 have c:=iL (l:=b.av) d e;refine⟨?_,f _ c⟩;rcases h.Sc _ c with a|a
 .have:=a.1;omega
 .omega
def Ji{bB hp fr:O}(z:RV g q 2 d p bB hp fr k s)(M:fQ s.heap e)(P:ap g t b.av)(N:ap g h b.bA)(r:ap g u x.args)
 (L:gF k b)(ai:∀w∈b.av,w<=9223372036854775807)(Z:∀l∈x.args,0<=l/\l<b.av.length)(ax:1<=x.args.length/\x.args.length<=4)(ay:x.op=16\/x.op=17):
 dz cq 213 [vp q 0,fv b t v h,xv x u j] g (Ny s.heap b x):=by
 apply sR (q,0)
 simp -zeta only[aE,aD]
 intro m1 F
 have a:J g F:=((J.aF g).aP _).aP _
 have m:∀i∈[m1.size,g.size],i<F.size:=by simp[F,m1];omega
 have ar:=r.len
 have aA:=P.len
 have aw:=N.len
 have an:=r.cap
 clear_value F
 have c:0<=aO x.args 0/\aO x.args 0<b.av.length:=Z _ (iL V V)
 have R:aO x.args 0<b.bA.length:=by have:=L.lr;have:=L.lh;omega
 have ak:=L.va c.1 c.2 ai
 refine⟨V,V,aO x.args 0,(r.ext a).Gz V V,c.1,V,aO b.av (aO x.args 0),(P.ext a).Gz c.1 c.2,hp,a.af z.EF,?_⟩
 unfold Ny
 simp only[]
 generalize aB:aO b.av (aO x.args 0)=w at*
 refine(gR (cT.ext a z.heap) ak).aI (J.aF _) m λi m3 y B _=>⟨i,rfl,λah=>cr (λf=>nb y ah f.1) (a.trans B),λag=>?_⟩
 have n:=yb y ag
 let⟨C,az⟩:=cw n
 have au:=(M.cell _ (aq C)).fl
 have al:=a.trans B
 refine((fC (z.ext al) n.1 C)).aI B m ?_
 rintro _ m4 ⟨fl,rfl,aj,U⟩
 have S:=B.trans U
 refine⟨U,_,_,_,rfl,(nT aj V).aI (oh (sI (aZ s.heap w).aL)) (λi y=>S.lt (m i y)) λps m5 o5 i5 h5=>⟨ps,rfl,V,V,V,?_⟩⟩
 have G:=S.trans h5
 have aa:=a.trans G
 have e1:(Int.toNat (1:Int))=1:=rfl
 have e2:(Int.toNat (u.len:Int))=u.len:=V
 rw[e1,e2]
 refine(nC (P.ext aa) (Ya (r.ext aa) V) (λl o=>Z l (Zb o)) bN).aI (by simp[dB];omega) (λi y=>G.lt (m i y)) λqs m6 o6 i6 I=>⟨qs,rfl,?_⟩
 have ab:=G.trans I
 refine(p7 (i5.ext I) i6).aI ab m λb2 m7 W h7 A=>⟨b2,rfl,λad=>?_,λac=>cr (λf=>fb W ac f.2.1) (a.trans A)⟩
 have D:=W.1 ad
 refine(fC (z.ext (a.trans A)) n.1 C).aI A m ?_
 rintro _ m8 ⟨am,rfl,av,K⟩
 have H:=A.trans K
 refine⟨K,_,_,_,rfl,λo=>?_,λo=>?_⟩
 .simp at o
  have E:=a.trans H
  refine⟨λl=>jr ⟨n,D,Or.inl o,λe=>by simp at l;omega⟩ E,λl=>⟨V,V,aO x.args 0,(r.ext E).Gz V V,c.1,V,aO b.bA (aO x.args 0),(N.ext E).Gz c.1 R,fU ?_ E⟩⟩
  simp only[aM,ao,ne_eq]at l⊢
  exact⟨λQ=>⟨n,D,Or.inl o,λ_=>Q⟩,λf=>f.2.2.2 V⟩
 .simp at o
  refine(tX (z.ext (a.trans H)) M (i5.ext ((I.trans h7).trans K)) (λT E=>M.field (aq C) (nk.1 E).1 (nk.1 E).2) (oh (sI (aZ s.heap w).aL))).aI H m λb3 m9 X h9 T=>⟨b3,rfl,λaf=>?_,λae=>cr (λf=>?_) (a.trans T)⟩
  .have Y:=sA.1 (X.1 af)
   have E:=a.trans T
   refine⟨λl=>jr ⟨n,D,Or.inr Y,λe=>by simp at l;omega⟩ E,λl=>⟨V,V,aO x.args 0,(r.ext E).Gz V V,c.1,V,aO b.bA (aO x.args 0),(N.ext E).Gz c.1 R,fU ?_ E⟩⟩
   simp only[aM,ao,ne_eq]at l⊢
   exact⟨λQ=>⟨n,D,Or.inr Y,λ_=>Q⟩,λf=>f.2.2.2 V⟩
  .rcases f.2.2.1 with l|l
   .exact o l
   .exact fb X ae (sA.2 l)
def Hz{bB Q fr:O}(b:RV g q 2 d p bB Q fr k s)(H:qV B k)(E:fQ s.heap e)(hw: -9223372036854775808<=w/\w<=9223372036854775807):
 dz cq 211 [vp q 0,vi w] g (Em k s.heap w):=by
 apply rT (q,0)
 simp -zeta only[aE,aD]
 refine⟨Q,b.EF,(gR b.heap hw).then λi m1 x D=>⟨i,rfl,λai=>cr (λa=>nb x ai a.1) D,λah=>?_⟩⟩
 have z:=yb x ah
 let⟨G,al⟩:=cw z
 have L:=E.cell _ (aq G)
 have aC:=(L.pG al).2
 refine(fC (b.ext D) z.1 G).mono ?_
 rintro _ f ⟨C,rfl,P,j⟩
 refine⟨_,_,_,rfl,?_⟩
 intro U h
 have an:=D.trans j
 have I:J f h:=((J.aF f).aP _).ai (ad _) _ _
 have s4:h.size=f.size+1:=by simp[h,U,aA]
 have hB:af h f.size 1=some (vi (aZ s.heap w).mK):=(cz.ai (m:=U) (o:=0) (r:=[.i (aZ s.heap w).aS,.i (aZ s.heap w).mK,.s C]) (cz.push f _ _)).cJ 1
 have y:∀i∈[f.size],i<h.size:=by simp[s4]
 clear_value h
 have c:=an.trans I
 have M:=b.ext c
 have aB:=b.eS.cv.len
 have az:=H.pB.len
 have ar:(eI k.bt).length<=12:=by
  have:=sD H.pB.types k.bt.length;rw[nJ _ _ (ad _)]at this;exact this
 refine⟨d,M.bt,(pY M.eS.bt H.pB.types).aI (J.aF _) y λm5 t _=>⟨_,rfl,t.dA hB,p,(b.ext (c.trans t)).cv,?_⟩⟩
 have aF:=c.trans t
 have X:cQ ((aZ s.heap w).mK -((eI k.bt).length:Int))=(aZ s.heap w).mK -gA k:=aQ V V
 have Y:cQ ((p.len:Int) -1)=(p.len:Int) -1:=aQ V V
 rw[X,Y]
 refine(aY _ _ _ _).aI t y λb2 m6 N h6 l=>⟨b2,rfl,λae=>?_,λac=>cr (λa=>fb N ac ⟨a.2.1,oh a.2.2.1⟩) (c.trans l)⟩
 have S:=N.1 ae
 have A:=c.trans l
 have F:=b.ext A
 let⟨ao,R⟩:=cg k.cv (((aZ s.heap w).mK -gA k).toNat)
 have am:dm k ((aZ s.heap w).mK -gA k)=ao:=by simp[dm,R]
 obtain⟨W,l',c',ab,ak,av,g0,g1,_⟩:=F.eS.cv.aO R
 have au:=ab.len
 have ay:=ak.len
 have ax:=P.len
 have aw:=L.fl
 have Z:cQ ((C.len:Int)+1)=(C.len:Int)+1:=aQ V V
 rw[Z]
 unfold Em
 rw[am]
 refine⟨p,F.cv,V,V,W,g0,λu=>⟨p,F.cv,V,V,l',g1,λv=>⟨λn=>?_,λn=>?_⟩,λv=>cr (λa=>?_) A⟩,λu=>cr (λa=>?_) A⟩
 .simp at u v n
  exact jr ⟨z,S.1,V,V,V,Or.inl n⟩ A
 .simp at u v n
  refine(nT (P.ext (I.trans l)) V).aI (oh (sI (aZ s.heap w).aL)) (λi x=>l.lt (y i x)) λps m7 o7 i7 aa=>⟨ps,rfl,?_⟩
  have K:=l.trans aa
  refine(tX (b.ext (c.trans K)) E i7 (λag T=>E.field (aq G) (nk.1 T).1 (nk.1 T).2) (oh (sI (aZ s.heap w).aL))).aI K y λb3 m8 ag ap T=>⟨b3,rfl,fU ?_ (c.trans T)⟩
  rw[ag,sA]
  refine⟨λaj=>⟨z,S.1,V,V,V,Or.inr aj⟩,λa=>?_⟩
  rcases a.2.2.2.2.2 with j|j
  .exact absurd j n
  .exact j
 .have:=a.2.2.2.2.1;simp at v;omega
 .have:=a.2.2.2.1;simp at u;omega
def HA{bB M E:O}(C:RV g q 2 d p bB M E k s)(B:ap g h b.bA)(G:ap g u x.args)(T:0<=x.bW/\x.bW<=b.bA.length)(U:b.bA.length<=1000000)
 (K:∀w∈b.bA,w≠0->1000<=w/\∃o,s.heap[ix w]? =some o):
 dz cq 209 [vp q 0,fv b t v h,xv x u j] g (JP s.heap b x):=by
 apply rU (q,0)
 simp -zeta only[aE,aD]
 intro n f
 have c:J g f:=((J.aF g).aP _).aP _
 have L:∀D∈[n.size,g.size],D<f.size:=by simp[f,n];omega
 have F:af f n.size 4=some (O.v u):=(cz.push n _ _).cJ 4
 have Q:=G.len
 have S:=B.len
 clear_value f
 unfold JP
 refine⟨λm=>jr (λr=>absurd (by simpa using m) r) c,λm=>?_⟩
 simp at m
 have e:cQ (x.bW -1)=x.bW -1:=aQ V V
 rw[e]
 have A:=(B.ext c).Gz (i:=x.bW -1) V V
 refine⟨V,V,aO b.bA (x.bW -1),A,λa=>jr (λ_ r=>absurd (by simpa using a) r) c,λa=>?_⟩
 simp at a
 let⟨N,o,z⟩:=K _ (iL (l:=b.bA) (i:=x.bW -1) V V) a
 refine⟨V,V,aO b.bA (x.bW -1),A,(fC (C.ext c) N z).aI (J.aF _) L ?_⟩
 rintro _ W ⟨P,rfl,I,r⟩
 have R:=I.len
 have H:aZ s.heap (aO b.bA (x.bW -1))=o:=by simp[aZ,z]
 refine⟨r,_,_,_,rfl,r.dA F,fU ?_ (c.trans r)⟩
 rw[H]
 simp
 exact⟨λy _ _=>V,λy=>oh (y m a)⟩
def uo(k:cp)(x:Instr):∀(c t:List Int)(a:Nat),mq k x a (c++t)=mq k x a c++mq k x (a+c.length) t
 |[],t,a=>by simp[mq]
 |u::c,t,a=>by
  have:=uo k x c t (a+1);simp only[db,mq,this,aW];have e:a+(c.length+1)=a+1+c.length:=V;rw[e];split<;>simp
def vw{bB l Y:O}(o:RV g q 2 d p bB l Y k s)(R:ap g t b.av)(D:ap g u x.args)(Z:gF k b)(af:∀w∈b.av,w<=9223372036854775807)
 (ag:∀y∈x.args,0<=y/\y<b.av.length)(hc:CL k x)(ai:x.op=9\/x.op=24):
 dz cq 210 [vp q 0,fv b t v h,xv x u j] g (OK k s.heap b x):=by
 apply rS (q,0)
 simp -zeta only[aE,aD]
 intro W i
 have G:J g i:=((J.aF g).aP _).aP _
 have F:∀r∈[W.size,g.size],r<i.size:=by simp[i,W];omega
 have aa:=D.len
 have al:=R.len
 clear_value i
 refine dZ (n:=x.args.length) (aa▸D.fu) (λa c=>J i c/\∀y∈mq k x 0 (x.args.take a),1000<=aO b.av y->gZ s.heap (aO b.av y)) ⟨J.aF _,by simp[mq]⟩ ?_
 rintro a m3 aj μ hk ⟨T,Q⟩ I
 have m:=G.trans T
 refine⟨λh=>?_,λh=>jr (by simp at h;rwa[cy V]at Q) m⟩
 simp only[an]at h
 let⟨y,H⟩:=cg x.args a
 have f:=ag y (aq H)
 have C:=o.ext m
 have S:mq k x 0 (x.args.take (a+1))=mq k x 0 (x.args.take a)++mq k x a [y]:=by
  rw[bC H,uo];congr 2;simp;omega
 have E:(nN k x a=true->1000<=aO b.av y->gZ s.heap (aO b.av y))->∀z∈mq k x 0 (x.args.take (a+1)),1000<=aO b.av z->gZ s.heap (aO b.av z):=λhh z c=>by
  rw[S]at c;rcases List.mem_append.1 c with c|c
  .exact Q z c
  .simp only[mq]at c;split at c
   .rename_i e;simp at c;subst c;exact hh e
   .simp at c
 have ah:nN k x a=true->y∈mq k x 0 x.args:=λe=>by
  have X:x.args=x.args.take (a+1)++x.args.drop (a+1):=(dw _ _).symm;rw[X,uo,S];refine bu _ (dv _ ?_);simp only[mq];rw[ak e];simp
 refine⟨V,V,y,by simpa using m.af (D.aO H),f.1,V,aO b.av y,by simpa using m.af (R.Gz f.1 f.2),d,C.bt,p,C.cv,?_⟩
 refine(rj C.eS hc u j a).aI T F λr m4 M h4 K=>⟨r,rfl,λae=>?_,λad=>I V _ ⟨K,E λe=>absurd ⟨ai,e⟩ (fb M ad)⟩⟩
 have e:=(M.1 ae).2
 refine(dJ _ _).aI K F λb2 m5 N h5 A=>⟨b2,rfl,λac=>?_,λab=>I V _ ⟨A,E λ_ l=>absurd l (fb N ab)⟩⟩
 have U:=G.trans A
 refine⟨l,(o.ext U).EF,(gR (cT.ext U o.heap) (Z.va f.1 f.2 af)).aI A F λb3 m6 P h6 L=>⟨b3,rfl,λB=>cr (λhM=>nb P B (hM y (ah e) (N.1 ac))) (G.trans L),λB=>I V _ ⟨L,E λ_ _=>yb P B⟩⟩⟩
end
section
structure CM(B:Int)(im:cp)(s:St)(fs:List be)(f:be)(x:Instr):Prop where
 ok:fB B im s
 run:s.cW=3
 fr:s.aj=fs++[f]
 cur:fJ im f=x
 yI:∀g∈s.aj,∀w∈g.av,w<=9223372036854775807
section
variable{B:Int}{b:cp}{s:St}{c:List be}{f:be}{x:Instr}
def CM.F(a:CM B b s c f x):gF b f:=a.ok.aj f (by rw[a.fr];simp)
def CM.Qh(a:CM B b s c f x):∀w∈f.av,w<=9223372036854775807:=a.yI f (by rw[a.fr];simp)
def CM.I(a:CM B b s c f x):∃p,b.cv[f.dV.toNat]? =some p/\dm b f.dV=p/\QT B b p/\p.bn[f.pc.toNat]? =some x/\iu b p f.pc.toNat x:=by
 have:=a.F.Ko a.ok.eS;rwa[a.cur]at this
def CM.Ma(a:CM B b s c f x):f.av.length=f.ba.length/\f.bA.length=f.ba.length/\1<=f.ba.length/\f.ba.length<=1000000:=by
 obtain⟨p,_,e,i,_,_⟩:=a.I;have d:=a.F.lr;have g:=a.F.lo;have h:=a.F.lh;rw[e]at d g h;have:=i.av;have:=a.ok.eS.fu;omega
def CM.arg(a:CM B b s c f x):∀y∈x.args,0<=y/\y<f.av.length:=λy h=>by
 obtain⟨p,_,e,_,_,g⟩:=a.I;have d:=a.F.lr;rw[e]at d;have:=g.args y h;omega
def CM.dst(a:CM B b s c f x):0<=x.dst/\x.dst<f.ba.length:=by
 obtain⟨p,_,e,_,_,g⟩:=a.I;have d:=a.F.lo;rw[e]at d;have:=g.dst;omega
def CM.call(a:CM B b s c f x):CL b x:=let⟨_,_,_,_,_,d⟩:=a.I;d.call
def CM.opc(a:CM B b s c f x):0<=x.op/\x.op<=24/\x.op≠7/\x.op≠8/\x.op≠12/\x.op≠13:=by
 obtain⟨p,_,_,e,_,d⟩:=a.I;exact((Ik (Pk e.av.2.2 a.ok.eS.fu) a.ok.eS.pB.len.2 λq g=>(a.ok.eS.pB.de q g).1).1 d).1
def CM.QX(g:CM B b s c f x):x.args.length<=4/\((x.op=5\/x.op=14\/x.op=15\/x.op=18\/x.op=23\/x.op=19\/x.op=20\/x.op=21)->x.args.length=1)/\((x.op=1\/x.op=2\/x.op=3\/x.op=4\/x.op=11)->x.args.length=2)/\
 ((x.op=16\/x.op=17)->1<=x.args.length)/\(x.op=6->0<=x.bW/\x.bW<=f.bA.length/\0<=x.bK/\x.bK<12/\x.args.length<=3)/\(x.op=10->0<=x.bK/\x.bK<4/\x.args.length<=3)/\(x.op=0->-999<=x.bK/\x.bK<=999):=by
 obtain⟨z,_,r,y,_,u⟩:=g.I
 have a:=u.op
 have t:=g.F.lh
 rw[r]at t
 have d:=g.ok.eS.pB
 have v:(eI b.bt).length<=12:=by
  have:=sD d.types b.bt.length;rw[nJ _ _ (ad _)]at this;exact this
 have w:=yG d.types x.bK
 unfold kM at a
 by_cases h:x.op=0
 .rw[ak h]at a;omega
 rw[ae h]at a
 by_cases i:x.op=1\/x.op=2\/x.op=3\/x.op=4\/x.op=11
 .rw[ak i]at a;omega
 rw[ae i]at a
 by_cases j:x.op=5\/x.op=14\/x.op=15\/x.op=18\/x.op=23
 .rw[ak j]at a;omega
 rw[ae j]at a
 by_cases k:x.op=6
 .rw[ak k]at a;omega
 rw[ae k]at a
 by_cases l:x.op=9\/x.op=24
 .rw[ak l]at a
  let⟨q,n,e,o⟩:=a
  have:=(d.de q (aq e)).1;omega
 rw[ae l]at a
 by_cases m:x.op=10
 .rw[ak m]at a
  obtain⟨⟨q,n,e,o⟩,_⟩:=a
  have:=(d.de q (aq e)).1
  have:=ax e
  have:=d.len;omega
 rw[ae m]at a
 by_cases n:x.op=16\/x.op=17
 .rw[ak n]at a;omega
 rw[ae n]at a
 by_cases o:x.op=19
 .rw[ak o]at a;omega
 rw[ae o]at a
 by_cases p:x.op=20
 .rw[ak p]at a;omega
 rw[ae p]at a
 by_cases q:x.op=22
 .rw[ak q]at a;omega
 rw[ae q]at a
 by_cases e:x.op=21
 .rw[ak e]at a
  have:=a.1;omega
 rw[ae e]at a;exact a.elim
def CM.Qu(d:CM B b s c f x):∀w∈f.bA,w≠0->1000<=w/\∃e,s.heap[ix w]? =some e/\e.aS<0:=λw h k=>by
 have g:1000<=w:=by have:=d.F.bA w h;omega
 refine⟨g,?_⟩;have j:0<holds s.aj (ix w):=by
  rw[d.fr,ez,iE];have:=uT c (ix w);have:=tS (l:=f.bA) (f:=ix w) (by rw[iC g];exact h);omega
 exact eT λi=>by have:=d.ok.mE (ix w) i;omega
def CM.W3(d:CM B b s c f x):∀o∈f.ba,0<=o/\o<=999999:=λo h=>by
 refine⟨(d.F.Pm o h),?_⟩;rcases gW (0<o)with i|i
 .let⟨k,e⟩:=List.mem_iff_getElem?.1 h;have:=d.Ma;let⟨w,j⟩:=cg f.av k (oh (ax e));have m:=KB d.F.Pm j e (c:=ix w) (by rw[iC ((d.F.ba k o w e j).2 i)]);have n:o<=eA s.aj (ix w):=by
   rw[d.fr,fF,j7];have:=EY (c:=c) (λg l=>d.ok.aj g (by rw[d.fr];exact bu _ l)) (ix w);omega
  let⟨g,hd,l⟩:=d.ok.heap.lv (ix w) V;have p:=d.ok.heap.ex _ g hd l;have q:=qA s.heap (ix w);have r:=(d.ok.heap.cell g (aq hd)).hi;omega
 .omega
def CM.Ry(a:CM B b s c f x):∀r∈dF b x,0<=r/\r<f.av.length:=λr d=>a.arg r (Nk d)
end
def Lf{am:Int}{o:E}{mb:Nat}{ah ax bB d fr:O}{M:cp}{K:St}(Q:RV o mb 2 ah ax bB d fr M K){fs:List be}{m:be}{x:Instr}(C:CM am M K fs m x){Z ac h S al ow:O}(R:ap o Z m.av)(U:ap o h m.bA)(L:ap o S x.args){ba:List Int}(X:ap o ow ba)(aB:ba.length=m.ba.length):
 dz cq 170 [vp mb 0,fv m Z ac h,xv x S al,O.v ow] o (uh M K m x ba):=by
 apply tz (mb,0)
 simp -zeta only[aE,aD]
 intro Y P
 have b:J o P:=((J.aF o).aP _).aP _
 have i:∀g∈[Y.size,o.size],g<P.size:=by simp[P,Y];omega
 have ai:cz P Y.size dN [.i x.op,.i x.dst,.i x.bK,.i x.bW,.s S,.s al]:=cz.push Y _ _
 have ar:cz P o.size eF [.i m.dV,.i m.pc,.i m.dst,.s Z,.s ac,.s h]:=(cz.push o _ _).ext (J.push Y _)
 have ay:=L.len
 have aF:=R.len
 have az:=U.len
 have aC:=X.len
 have hd:=C.dst
 have aA:=C.Ma
 have G:=C.QX
 have hI:=C.ok.heap
 clear_value P
 refine⟨λN=>J P N/\(∀ac∈ba,0<=ac)/\(jD x.op->aO ba x.dst<=0),?_,?_⟩
 .refine(zV (X.ext b)).aI (J.aF _) i λg m3 c n _=>⟨g,rfl,λu=>cr (λl=>nb c u l.nn) (b.trans n),λz=>?_⟩
  refine(rX _ _).aI n i λb2 A y w a=>⟨b2,rfl,λu=>?_,λv=>⟨a,yb c z,λe=>absurd e (fb y v)⟩⟩
  refine⟨hd.1,V,aO ba x.dst,(X.ext (b.trans a)).Gz hd.1 V,λk=>cr (λl=>?_) (b.trans a),λk=>⟨a,yb c z,λ_=>by simpa using k⟩⟩
  have:=l.dst (y.1 u);simp at k;omega
 .rintro m3 ⟨n,q,p⟩
  have f:=b.trans n
  have t:=Q.ext f
  have mk:∀{ad:Prop},(uh M K m x ba->ad)->(ad->uh M K m x ba)->(uh M K m x ba<->ad):=λI h2=>⟨I,h2⟩
  have B:1<=x.args.length->0<=aO x.args 0/\aO x.args 0<m.av.length:=λI=>C.arg _ (iL V V)
  have D:∀{N},J o N->1<=x.args.length->af N S.az (S.off+Int.toNat (0:Int)*1)=some (vi (aO x.args 0)):=λhx I=>(L.ext hx).Gz V V
  have F:∀{N},J o N->1<=x.args.length->af N Z.az (Z.off+Int.toNat (aO x.args 0)*1)=some (vi (aO m.av (aO x.args 0))):=λhx I=>(R.ext hx).Gz (B I).1 (B I).2
  refine⟨λe=>?_,λe1=>?_⟩
  .simp only[cB,aM]at e
   refine(Dk (R.ext f) (L.ext f) C.arg).aI n i λg A c w a=>⟨g,rfl,fU (c.trans ?_) (b.trans a)⟩
   refine⟨λd=>?_,λh=>h.pA V⟩
   refine⟨q,p,?_,?_,?_,?_,?_,?_,?_,?_,?_,?_,?_⟩<;>intro r<;>first|(exfalso;omega)|exact d
  simp only[bU,ao]at e1
  refine⟨λe=>?_,λe2=>?_⟩
  .simp only[aM]at e
   have j:=G.2.2.2.2.1 e
   refine(HA t (U.ext f) (L.ext f) ⟨j.1,j.2.1⟩ V (λaa W T=>by obtain⟨I,s,H,_⟩:=C.Qu aa W T;exact⟨I,s,H⟩)).aI n i λg A c w a=>⟨g,rfl,fU (c.trans ?_) (b.trans a)⟩
   refine⟨λd=>?_,λh=>h.lX e⟩
   refine⟨q,p,?_,?_,?_,?_,?_,?_,?_,?_,?_,?_,?_⟩<;>intro r<;>first|(exfalso;omega)|exact d
  simp only[ao]at e2
  refine⟨λe=>?_,λe3=>?_⟩
  .simp only[aM]at e
   refine(vw t (R.ext f) (L.ext f) C.F C.Qh C.arg C.call (Or.inl e)).aI n i λg A c w a=>⟨g,rfl,fU (c.trans ?_) (b.trans a)⟩
   refine⟨λd=>?_,λh=>h.df (Or.inl e)⟩
   refine⟨q,p,?_,?_,?_,?_,?_,?_,?_,?_,?_,?_,?_⟩<;>intro r<;>first|(exfalso;omega)|exact d
  simp only[ao]at e3
  refine⟨λe=>?_,λe4=>?_⟩
  .simp only[aM]at e
   refine(vw t (R.ext f) (L.ext f) C.F C.Qh C.arg C.call (Or.inr e)).aI n i λg A c w a=>⟨g,rfl,λu=>?_,λz=>cr (λl=>fb c z (l.df (Or.inr e))) (b.trans a)⟩
   refine(lJ (X.ext (b.trans a))).aI a i λb2 m5 y k s=>⟨b2,rfl,λag=>?_,λv=>cr (λl=>fb y v (l.zero (Or.inl e)).1) (b.trans s)⟩
   refine(lJ (U.ext (b.trans s))).aI s i λb3 m6 H T j=>⟨b3,rfl,fU (H.trans ?_) (b.trans j)⟩
   refine⟨λd=>?_,λh=>(h.zero (Or.inl e)).2⟩
   refine⟨q,p,?_,?_,?_,?_,?_,?_,?_,?_,?_,?_,?_⟩<;>intro r<;>first|(exfalso;omega)|exact c.1 u|exact⟨y.1 ag,d⟩
  simp only[ao]at e4
  refine⟨λe=>?_,λe5=>?_⟩
  .simp only[aM]at e
   have W:=G.2.1 V
   refine(lJ (X.ext f)).aI n i λb2 m5 y k s=>⟨b2,rfl,λag=>?_,λv=>cr (λl=>fb y v (l.zero (Or.inr e)).1) (b.trans s)⟩
   refine(lJ (U.ext (b.trans s))).aI s i λb3 m6 H T j=>⟨b3,rfl,λav=>?_,λau=>cr (λl=>fb H au (l.zero (Or.inr e)).2) (b.trans j)⟩
   have ab:=b.trans j
   have aj:=Q.ext ab
   have aa:=aj.aj.len
   have hO:∀d:1<K.aj.length\/aO m.av (aO x.args 0)<1000,uh M K m x ba:=λd=>by
    refine⟨q,p,?_,?_,?_,?_,?_,?_,?_,?_,?_,?_,?_⟩<;>intro r<;>first|(exfalso;omega)|exact⟨y.1 ag,H.1 av⟩|exact d
   refine⟨fr,aj.Rb,λh8=>jr (hO (Or.inl (by simp at h8;omega))) ab,λh8=>?_⟩
   refine⟨V,V,_,D ab V,(B V).1,oh ((B V).2),_,F ab V,(dJ _ _).aI j i λb4 m7 ak h9 ae=>⟨b4,rfl,fU ?_ (b.trans ae)⟩⟩
   simp at h8
   constructor
   .intro aq
    exact hO (Or.inr (oh (nb ak aq)))
   .intro l
    rcases l.ret e with aq|aq
    .omega
    .have:¬b4=true:=λaw=>by have:=ak.1 aw;omega
     simpa using this
  simp only[ao]at e5
  refine⟨λe=>?_,λe6=>?_⟩
  .simp only[aM]at e
   have W:=G.2.2.1 V
   have j:=B V
   refine⟨V,V,_,D f V,j.1,V,_,F f V,(Hz t C.ok.eS hI (C.F.va j.1 j.2 C.Qh)).aI n i λg A c w a=>⟨g,rfl,fU (c.trans ?_) (b.trans a)⟩⟩
   refine⟨λd=>?_,λh=>h.apply e⟩
   refine⟨q,p,?_,?_,?_,?_,?_,?_,?_,?_,?_,?_,?_⟩<;>intro r<;>first|(exfalso;omega)|exact d
  simp only[ao]at e6
  refine⟨λe=>?_,λe7=>?_⟩
  .simp only[aM]at e
   have W:=G.2.1 V
   have j:=B V
   refine⟨V,V,_,D f V,j.1,V,_,F f V,d,t.EF,(gR t.heap (C.F.va j.1 j.2 C.Qh)).aI n i λg A c w a=>⟨g,rfl,λu=>?_,λz=>cr (λl=>fb c z (l.Zj e).1) (b.trans a)⟩⟩
   have v:=c.1 u
   refine(fC (Q.ext (b.trans a)) v.1 (cw v).1).aI a i ?_
   rintro _ m5 ⟨fl,rfl,aa,k⟩
   refine⟨k,_,_,_,rfl,fU ?_ (b.trans (a.trans k))⟩
   simp only[an]
   refine⟨λd=>?_,λh=>(h.Zj e).2⟩
   refine⟨q,p,?_,?_,?_,?_,?_,?_,?_,?_,?_,?_,?_⟩<;>intro r<;>first|(exfalso;omega)|exact⟨v,d⟩
  simp only[ao]at e7
  refine⟨λe=>?_,λe8=>?_⟩
  .simp only[aM]at e
   have W:=G.2.1 V
   have j:=B V
   refine⟨V,V,_,D f V,j.1,V,_,F f V,(dJ _ _).aI n i λg A c w a=>⟨g,rfl,fU (c.trans ?_) (b.trans a)⟩⟩
   refine⟨λd=>?_,λh=>h.drop e⟩
   refine⟨q,p,?_,?_,?_,?_,?_,?_,?_,?_,?_,?_,?_⟩<;>intro r<;>first|(exfalso;omega)|exact d
  simp only[ao]at e8
  refine⟨λe=>?_,λe9=>?_⟩
  .simp only[cB,aM]at e
   refine(Ji t hI (R.ext f) (U.ext f) (L.ext f) C.F C.Qh C.arg ⟨G.2.2.2.1 e,G.1⟩ e).aI n i λg A c w a=>⟨g,rfl,fU (c.trans ?_) (b.trans a)⟩
   refine⟨λd=>?_,λh=>h.TV e⟩
   refine⟨q,p,?_,?_,?_,?_,?_,?_,?_,?_,?_,?_,?_⟩<;>intro r<;>first|(exfalso;omega)|exact d
  simp only[bU,ao]at e9
  refine⟨λe=>?_,λab=>?_⟩
  .simp only[aM]at e
   have W:=G.2.1 V
   have j:=B V
   refine⟨d,t.EF,V,V,_,D f V,j.1,V,_,F f V,(gR t.heap (C.F.va j.1 j.2 C.Qh)).aI n i λg A c w a=>⟨g,rfl,λu=>?_,λz=>cr (λl=>fb c z (l.load e).1) (b.trans a)⟩⟩
   have v:=c.1 u
   have H:=b.trans a
   refine⟨V,V,_,D H V,j.1,V,_,F H V,(fC (Q.ext H) v.1 (cw v).1).aI a i ?_⟩
   rintro _ m5 ⟨fl,rfl,aa,k⟩
   have ag:=aa.len
   refine⟨k,_,_,_,rfl,k.dA ((ai.ext a).cJ 2),fU ?_ (b.trans (a.trans k))⟩
   simp only[an]
   refine⟨λd=>?_,λh=>oh ((h.load e).2)⟩
   refine⟨q,p,?_,?_,?_,?_,?_,?_,?_,?_,?_,?_,?_⟩<;>intro r<;>first|(exfalso;omega)|exact⟨v,V⟩
  simp only[ao]at ab
  refine⟨λe=>?_,λag=>?_⟩
  .simp only[aM]at e
   have W:=G.2.1 V
   have j:=B V
   refine⟨d,t.EF,V,V,_,D f V,j.1,V,_,F f V,(gR t.heap (C.F.va j.1 j.2 C.Qh)).aI n i λg A c w a=>⟨g,rfl,λu=>?_,λz=>cr (λl=>fb c z (l.Ok e).1) (b.trans a)⟩⟩
   have v:=c.1 u
   have H:=b.trans a
   have l:=Q.ext H
   refine⟨ah,l.bt,V,V,_,D H V,j.1,V,_,F H V,(zj l.eS.bt C.ok.eS.pB.types _).aI a i ?_⟩
   rintro _ m5 ⟨cs,rfl,aj,k⟩
   have s:=a.trans k
   refine⟨k,cs,rfl,k.dA (F H V),k.dA (D H V),k.dA ((ai.ext a).cJ 4),k.dA ((ar.ext a).cJ 3),(fC (Q.ext (b.trans s)) v.1 (cw v).1).aI s i ?_⟩
   rintro _ m6 ⟨fl,rfl,aa,T⟩
   refine⟨T,_,_,_,rfl,(dg (aj.ext T) _).aI (s.trans T) i λb2 m7 y h8 ae=>⟨b2,rfl,fU (y.trans ?_) (b.trans ae)⟩⟩
   refine⟨λd=>?_,λh=>(h.Ok e).2⟩
   refine⟨q,p,?_,?_,?_,?_,?_,?_,?_,?_,?_,?_,?_⟩<;>intro r<;>first|(exfalso;omega)|exact⟨v,d⟩
  .simp only[ao]at ag
   refine jr ?_ f
   refine⟨q,p,?_,?_,?_,?_,?_,?_,?_,?_,?_,?_,?_⟩<;>intro r<;>exfalso<;>omega
end
section
variable{p:Nat->Prop}{o n:Nat}{i:Int}{f:O}
structure dL(p:Nat->Prop)(ro:Nat->Nat)(m:E)(ro':Nat->Nat)(m':E):Prop where
 size:m.size<=m'.size
 jx:∀b,b<m.size->ro' b=ro b
 new:∀b,m'.size<=b->ro' b=0
 fS:∀b,b<m.size->¬p (ro b)->m'[b]? =m[b]?
def dL.aF(p:Nat->Prop){a:Nat->Nat}{m:E}(h:∀b,m.size<=b->a b=0):dL p a m a m:=⟨ad _,λ_ _=>rfl,h,λ_ _ _=>rfl⟩
def dL.trans{g i j:Nat->Nat}{d e f:E}(h:dL p g d i e)(k:dL p i e j f):dL p g d j f:=
 ⟨bH h.size k.size,λb a=>by rw[k.jx b (aJ a h.size),h.jx b a],k.new,λb a c=>by
  rw[k.fS b (aJ a h.size) (by rw[h.jx b a];exact c),h.fS b a c]⟩
def dL.mono{q:Nat->Prop}{b c:Nat->Nat}{m a:E}(h:dL p b m c a)(g:∀k,p k->q k):dL q b m c a:=⟨h.size,h.jx,h.new,λd e i=>h.fS d e λf=>i (g _ f)⟩
def dL.fK(p:Nat->Prop){c:Nat->Nat}{m d:E}(h:J m d)(e:∀b,m.size<=b->c b=0):dL p c m c d:=⟨h.size,λ_ _=>rfl,λb a=>e b (bH h.size a),λb a _=>h.same b a⟩
def dL.ai{a:Nat->Nat}{m:E}(g:∀b,m.size<=b->a b=0){b:Nat}(f:p (a b))(o:Nat)(l:List Ce):dL p a m a (ai m b o l):=
 ⟨pC (aA _ _ _ _).symm,λ_ _=>rfl,λc d=>g c (by rw[aA]at d;exact d),λc _ h=>bd _ _ _ _ λe=>h (e▸f)⟩
abbrev HC:=dL (λk=>k=3\/k=5\/k=6)
abbrev To:=dL (λk=>k≠0/\k≠9)
def dL.cG{g i:Nat->Nat}{c m f:E}(h:To g m i f)(e:J c m)(d:∀b,b<c.size->g b=0):J c f/\∀b,b<c.size->i b=0:=by
 have j:=e.size;exact⟨⟨bH j h.size,λb a=>by rw[h.fS b V (by simp[d b a]),e.same b a]⟩,λb a=>by rw[h.jx b V,d b a]⟩
def dL.da{e f:Nat->Nat}{m d:E}(h:To e m f d){l:List Nat}(c:∀b∈l,b<m.size/\e b=0):eG l m d:=λb a=>h.fS b (c b a).1 (by simp[(c b a).2])
structure iI(ro:Nat->Nat)(m:E)(e sz k:Nat)(s:O)(l:List Ce):Prop where
 len:l.length=s.len*sz
 le:s.len<=s.cap
 aO:s.cap=0\/∃b c tail,s=.mk b 0 s.len c/\ro b=k/\cz m b e (l++tail)/\(l++tail).length=c*sz
section
variable{c g:Nat->Nat}{b d:E}{e a k:Nat}{s:O}{l:List Ce}
def iI.Ew(h:iI c b e a k s l)(f:s.cap=0):l=[]/\s.len=0:=by
 have:=h.le;have d:s.len=0:=V;exact⟨List.length_eq_zero_iff.1 (by rw[h.len,d];simp),d⟩
def iI.jC(h:iI c b e a k s l):gP b s.az s.off l:=by
 rcases h.aO with f|⟨j,d,tail,h1,h2,h3,h4⟩
 .rw[(h.Ew f).1];intro i d g;simp at g
 .rw[h1];exact h3.jC.N4
def iI.wr(h:iI c b e a k s l)(d:o+n<=l.length):fg b s.az (s.off+o) n:=by
 rcases h.aO with f|⟨g,i,tail,h1,h2,h3,h4⟩
 .rw[(h.Ew f).1]at d;intro m j;simp at d;omega
 .rw[h1];simp only[O.fG,O.iY,bE];exact h3.fg bN
def iI.fS(h:iI c b e a k s l)(p:s.cap≠0->d[s.az]? =b[s.az]?)(q:s.cap≠0->g s.az=c s.az):iI g d e a k s l:=by
 refine⟨h.len,h.le,?_⟩;rcases h.aO with o|⟨m,n,tail,h1,h2,h3,h4⟩
 .exact Or.inl o
 .by_cases f:s.cap=0
  .exact Or.inl f
  .have i:=p f;have j:=q f;rw[h1]at i j;exact Or.inr ⟨m,n,tail,h1,j.trans h2,h3.congr i,h4⟩
def iI.az(h:iI c b e a k s l)(f:s.cap≠0):s.az<b.size/\c s.az=k:=by
 rcases h.aO with d|⟨g,i,tail,h1,h2,h3,h4⟩
 .exact absurd d f
 .rw[h1];exact⟨h3.lt,h2⟩
def iI.fI(h:iI c b e a k s l)(i:dL p c b g d)(j:¬p k):iI g d e a k s l:=
 h.fS (λf=>i.fS _ (h.az f).1 (by rw[(h.az f).2];exact j)) (λf=>i.jx _ (h.az f).1)
def iI.set(h:iI c b e a k s l){new:List Ce}(w:o+new.length<=l.length):iI c (ai b s.az (s.off+o) new) e a k s (iO l o new):=by
 refine⟨by rw[lp];exact h.len,h.le,?_⟩;rcases h.aO with u|⟨j,n,tail,h1,h2,h3,h4⟩
 .exact Or.inl u
 .refine Or.inr ⟨j,n,tail,h1,h2,?_,by simp only[aT,lp]at h4⊢;exact h4⟩;have p:s.az=j:=by rw[h1];rfl
  have q:s.off=0:=by rw[h1];rfl
  rw[p,q,bE];have:=cz.ai (m:=b) (o:=o) (r:=new) h3;have t:iO (l++tail) o new=iO l o new++tail:=by
   have f:(iO l o new).length=l.length:=lp _ _ _;apply eL;intro i;rcases aU i l.length with d|d
   .have g:(iO l o new++tail)[i]? =(iO l o new)[i]? :=aw (by rw[f];exact d);rw[g,kV,kV];simp only[aT];by_cases v:o<=i/\i<o+new.length
    .rw[ak V,ak V]
    .rw[ae V,ae V,aw d]
   .have g:(iO l o new++tail)[i]? =tail[i -l.length]? :=by rw[aG (by rw[f];exact d),f]
    rw[g,kV,ae V,aG d]
  rw[t]at this;exact this
def iI.cut(h:iI c b e a k s l){n:Nat}(m:n<=s.len):iI c b e a k (s.cut 0 n a) (l.take (n*a)):=by
 have j:=h.le;have q:=h.len;rcases h.aO with i|⟨f,g,tail,h1,h2,h3,h4⟩
 .have d:n=0:=V;cases s with
  |nil=>exact⟨by simp[d,O.cut],by simp[O.cut],Or.inl rfl⟩
  |CT f o p=>exact⟨by simp[d,O.cut],by simp[O.cut],Or.inl rfl⟩
  |mk f o r p=>simp at i;subst i;exact⟨by simp[d,O.cut],by simp[d,O.cut],Or.inl (by simp[O.cut])⟩
 .rw[h1];have d:s.len<=g:=by rw[h1]at j;exact j
  refine⟨?_,by simp[O.cut];omega,Or.inr ⟨f,g,l.drop (n*a)++tail,?_,h2,?_,?_⟩⟩
  .simp only[O.cut,O.dS,eJ,Xk];have:n*a<=s.len*a:=dq _ m;omega
  .simp[O.cut]
  .rw[<-eZ,dw];exact h3
  .rw[<-eZ,dw];exact h4
end
def iI.append{g:Nat->Nat}{f:E}{j l:Nat}{zs:List Ce}{u:Nat}{s x:O}{n c:List Ce}{K:O->E->Prop}(h:iI g f j zs.length l s n)(t:∀a,f.size<=a->g a=0)
 (k:c.length=x.len*zs.length)(B:gP f x.az x.off c)(i:(s.len+x.len)*u<=140737488355328)
 (q:∀v p d,iI v d j zs.length l p (n++c)->dL (λy=>y=l) g f v d->K p d):jb f j zs u s x K:=by
 have G:=h.le
 refine⟨c,k,B,λD=>?_,λF=>⟨i,n,h.len,h.jC,λd v=>?_⟩⟩
 .rcases h.aO with C|⟨a,d,tail,h1,h2,h3,h4⟩
  .have w:x.len=0:=V
   have A:c=[]:=List.length_eq_zero_iff.1 (by rw[k,w];simp)
   subst A
   refine⟨λy z=>by simp at z,?_⟩
   have p:=q g s _ (by rw[dD];exact h) (dL.aF _ t)
   cases s with
   |nil=>exact p
   |CT a o H=>exact p
   |mk a o H d=>simp only[w,jm];exact p
  .have w:=h.len
   have A:s.cap=d:=by rw[h1];rfl
   rw[h1]
   simp only[O.fG,O.iY,O.dS,bE]
   simp only[aT]at h4
   have z:c.length<=tail.length:=by
    have y:(s.len+x.len)*zs.length<=d*zs.length:=dq _ V;rw[fY]at y;omega
   refine⟨h3.fg (by simp only[aT];omega),?_⟩
   have p:=cz.ai (m:=f) (b:=a) (e:=j) (r:=c) (o:=s.len*zs.length) h3
   rw[<-w,AQ n c tail z]at p
   refine q g _ _ ⟨?_,?_,Or.inr ⟨a,d,tail.drop c.length,rfl,h2,?_,?_⟩⟩ (dL.ai t h2 _ _)
   .simp only[aT,O.dS,fY];omega
   .simp only[O.dS,O.NH];omega
   .rw[<-w];exact p
   .simp only[aT,List.length_drop];omega
 .refine q (λa=>if a=f.size then l else g a) _ _ ⟨?_,?_,Or.inr ⟨f.size,d,me zs (d -(s.len+x.len)),rfl,aH,cz.push _ _ _,?_⟩⟩ ⟨aH,λa i=>ae V,λa i=>?_,λa i _=>by rw[xr,ae V]⟩
  .simp only[aT,O.dS,fY,h.len,k]
  .simpa using v
  .simp only[aT,mF,h.len,k]
   rw[Nat.sub_mul,<-fY]
   have:(s.len+x.len)*zs.length<=d*zs.length:=dq _ v
   omega
  .simp at i;rw[ae V];exact t a V
def iI.fP{d:Nat->Nat}{i m:E}{e f k:Nat}{s:O}{l:List Ce}(h:fZ i m e f s l)(g:s≠.nil->d s.az=k):iI d m e f k s l:=by
 refine⟨h.len,?_,?_⟩
 .rcases h.aO with a|⟨b,c,tail,a,h2,h3,h4,h5⟩
  .rw[a];exact ad _
  .rw[a];exact h5
 .rcases h.aO with a|⟨b,c,tail,a,h2,h3,h4,h5⟩
  .rw[a];exact Or.inl rfl
  .refine Or.inr ⟨b,c,tail,a,?_,h3,h4⟩;have:=g (by rw[a];simp);rw[a]at this;exact this
def iI.pA{e:Nat->Nat}{m:E}{k:Nat}{s:O}{l:List Int}(h:iI e m ay 1 k s (l.map Ce.i))(g:l.length<=9223372036854775807):ap m s l:=by
 have d:s.len=l.length:=by have:=h.len;simp at this;omega
 refine⟨d,h.le,V,λj x c=>⟨[.i x],rfl,λi f a=>?_⟩⟩;have b:i=0:=by have:=ax a;simp at this;omega
 subst b;simp at a;subst a;have:=h.jC j (.i x) (by simp[c]);simpa using this
def yZ(l:List Int)(i:Nat)(v:Int):iO (l.map Ce.i) i [.i v]=(l.set i v).map Ce.i:=by simp[iO,tg]
def iI.iF{a:Nat->Nat}{m:E}{k:Nat}{s:O}{l:List Int}(h:iI a m ay 1 k s (l.map Ce.i))(b:0<=i)(c:i<l.length)(v:Int):iI a (ai m s.az (s.off+i.toNat*1) [.i v]) ay 1 k s ((Go.Proofs.YtdalfjkmdekijaaGreat.iF l i v).map Ce.i):=by
 have:=h.set (o:=i.toNat) (new:=[.i v]) bN;rw[yZ]at this;rw[cO];exact this
def iI.Ss{a:Nat->Nat}{m:E}{k:Nat}{s:O}{l:List Int}(h:iI a m ay 1 k s (l.map Ce.i))(b:0<=i)(c:i<l.length):fg m s.az (s.off+i.toNat*1) 1:=by
 rw[cO];exact h.wr bN
def FB(m:E)(f:O)(l:List Int):Prop:=∃c tail,f=.mk f.az 0 f.len c/\cz m f.az ay (l.map Ce.i++tail)
def FN(N:Nat)(a:Nat->Nat)(m:E)(f:O)(l:List Int):Prop:=l≠[]->a f.az=0/\N<=f.az/\FB m f l
def Ib(N:Nat)(b:Nat->Nat)(m:E)(a:List Ce)(c:bS):Prop:=∃f,a=[.i c.aS,.i c.mK,.s f]/\ap m f c.aL/\FN N b m f c.aL
def Xm(e:List (List Ce)):Prop:=∀(i j:Nat)(c d:List Ce)(a b:O),e[i]? =some c->e[j]? =some d->c[2]? =some (.s a)->d[2]? =some (.s b)->i≠j->a.len≠0->b.len≠0->a.az≠b.az
def Xm.nil:Xm []:=λi j c d a b h=>by simp at h
def eR(N:Nat)(b:Nat->Nat)(m:E)(c:O)(h:List bS):Prop:=∃a,iI b m se 3 3 c a.flatten/\gT 3 (Ib N b m) a h/\Xm a
def Ut(a:Nat->Nat)(m:E)(i:Nat)(b:List Ce)(f:be):Prop:=
 ∃r o h,b=[.i f.dV,.i f.pc,.i f.dst,.s r,.s o,.s h]/\iI a m ay 1 (10+3*i) r (f.av.map Ce.i)/\iI a m ay 1 (11+3*i) o (f.ba.map Ce.i)/\iI a m ay 1 (12+3*i) h (f.bA.map Ce.i)
structure Zz(ro:Nat->Nat)(m:E)(fr:O)(fs:List be)(css:List (List Ce)):Prop where
 sq:iI ro m eF 6 4 fr css.flatten
 len:css.length=fs.length
 size:∀cs∈css,cs.length=6
 de:∀(i:Nat)(cs:List Ce)(f:be),css[i]? =some cs->fs[i]? =some f->Ut ro m i cs f
def oH(d:Nat->Nat)(m:E)(b:O)(c:List be):Prop:=∃a,Zz d m b c a
def nG{m b:E}{l:List Int}(h:ap m f l)(j:l≠[]->b[f.az]? =m[f.az]?):ap b f l:=by
 by_cases a:l=[]
 .subst a;exact⟨h.len,h.cap,h.fu,aH⟩
 .exact⟨h.len,h.cap,h.fu,λo x n=>let⟨d,e,g⟩:=h.jC o x n;⟨d,e,λi c k=>by rw[aK (j a)];exact g i c k⟩⟩
def oI{m:E}{l:List Int}(h:ap m f l)(a:l≠[]):f.az<m.size:=by
 cases l with
 |nil=>exact absurd rfl a
 |cons b l=>exact lH (h.aO (k:=0) (x:=b) rfl)
def Ib.fI{N:Nat}{k l:Nat->Nat}{m j:E}(c:dL p k m l j)(h:¬p 0)(e:List Ce)(d:bS):Ib N k m e d->Ib N l j e d:=λ⟨f,q,b,i⟩=>
 ⟨f,q,nG b λa=>c.fS _ (oI b a) (by rw[(i a).1];exact h),λa=>by
  let⟨g1,g2,n,tail,o,g⟩:=i a;exact⟨by rw[c.jx _ (oI b a)];exact g1,g2,n,tail,o,g.congr (c.fS _ g.lt (by rw[g1];exact h))⟩⟩
def eR.fI{N:Nat}{p:Nat->Prop}{d e:Nat->Nat}{m c:E}{b:O}{h:List bS}(n:eR N d m b h)(a:dL p d m e c)(g:¬p 0)(k:¬p 3):eR N e c b h:=by
 let⟨f,i,j,l⟩:=n;exact⟨f,i.fI a k,j.mono (Ib.fI a g),l⟩
def Ut.fI{p:Nat->Prop}{e g:Nat->Nat}{m d:E}(a:dL p e m g d){i:Nat}(b:∀k,10+3*i<=k->k<=12+3*i->¬p k){c:List Ce}{f:be}:Ut e m i c f->Ut g d i c f:=λ⟨r,o,h,j,k,l,n⟩=>
 ⟨r,o,h,j,k.fI a (b _ V V),l.fI a (b _ V V),n.fI a (b _ V V)⟩
def oH.fI{p:Nat->Prop}{g j:Nat->Nat}{m e:E}{a:O}{b:List be}(r:oH g m a b)(c:dL p g m j e)(d:∀k,(k=4\/10<=k)->¬p k):oH j e a b:=by
 let⟨n,h⟩:=r;exact⟨n,h.sq.fI c (d 4 V),h.len,h.size,λi l f o q=>(h.de i l f o q).fI c λk s _=>d k V⟩
structure Cl(m0:E)(ro:Nat->Nat)(m:E)(mb e:Nat)(bx:List Ce)(bB hp fr:O)(lo:List Int)(lh:List bS)(lf:List be):Prop where
 cG:J m0 m
 kO:∀b,b<m0.size->ro b=0
 new:∀b,m.size<=b->ro b=0
 box:cz m mb e bx
 Rr:ro mb=1
 bB:iI ro m ay 1 2 bB (lo.map Ce.i)
 heap:eR m0.size ro m hp lh
 aj:oH ro m fr lf
section
variable{j:E}{b g:Nat->Nat}{a c:E}{d e:Nat}{h:List Ce}{bB l k:O}{r:List Int}{q:List bS}{o:List be}
def Cl.ext(L:Cl j b a d e h bB l k r q o)(g:J a c):Cl j b c d e h bB l k r q o/\To b a b c:=by
 have f:∀p,dL p b a b c:=λp=>dL.fK p g L.new;exact⟨⟨L.cG.trans g,L.kO,(f (λ_=>False)).new,L.box.ext g,L.Rr,L.bB.fI (f (λ_=>False)) id,L.heap.fI (f (λ_=>False)) id id,L.aj.fI (f (λ_=>False)) λ_ _=>id⟩,f _⟩
def Cl.pb(L:Cl j b a d e h bB l k r q o)(i:Nat)(c:List Ce):Cl j b (ai a d i c) d e (iO h i c) bB l k r q o/\To b a b (ai a d i c):=by
 have f:dL (λg=>g=1) b a b (ai a d i c):=dL.ai L.new L.Rr _ _;have n:To b a b (ai a d i c):=f.mono λg p=>V;let⟨b1,b2⟩:=n.cG L.cG L.kO;exact⟨⟨b1,b2,f.new,cz.ai (m:=a) L.box,L.Rr,L.bB.fI f bh,L.heap.fI f bh bh,L.aj.fI f λg p=>V⟩,n⟩
def Cl.xl(L:Cl j b a d e h bB l k r q o){i:Nat}(c:i+n<=h.length):fg a d i n:=L.box.fg c
def Cl.jJ(L:Cl j b a d e h bB l k r q o)(f:dL (λi=>i=3\/i=5\/i=6) b a g c){m:O}{p:List bS}(s:eR j.size g c m p):Cl j g c d e h bB m k r p o/\To b a g c:=by
 have n:To b a g c:=f.mono λi t=>V;let⟨b1,b2⟩:=n.cG L.cG L.kO;exact⟨⟨b1,b2,f.new,L.box.congr (f.fS _ L.box.lt (by rw[L.Rr];decide)),by rw[f.jx _ L.box.lt];exact L.Rr,L.bB.fI f bh,s,L.aj.fI f λi t=>V⟩,n⟩
def Cl.KP(L:Cl j b a d e h bB l k r q o)(f:dL (λi=>i=2) b a g c){p:O}{n:List Int}(s:iI g c ay 1 2 p (n.map Ce.i)):Cl j g c d e h p l k n q o/\To b a g c:=by
 have m:To b a g c:=f.mono λi t=>V;let⟨b1,b2⟩:=m.cG L.cG L.kO;exact⟨⟨b1,b2,f.new,L.box.congr (f.fS _ L.box.lt (by rw[L.Rr];decide)),by rw[f.jx _ L.box.lt];exact L.Rr,s,L.heap.fI f bh bh,L.aj.fI f λi t=>V⟩,m⟩
def Cl.lQ(L:Cl j b a d e h bB l k r q o)(f:dL (λi=>4<=i/\i≠9) b a g c){m:O}{p:List be}(s:oH g c m p):Cl j g c d e h bB l m r q p/\To b a g c:=by
 have n:To b a g c:=f.mono λi t=>V;let⟨b1,b2⟩:=n.cG L.cG L.kO;exact⟨⟨b1,b2,f.new,L.box.congr (f.fS _ L.box.lt (by rw[L.Rr];decide)),by rw[f.jx _ L.box.lt];exact L.Rr,L.bB.fI f bh,L.heap.fI f bh bh,s⟩,n⟩
end
end
section
variable{α:Type}{k:Nat}
def up{α:Type}(f:Nat->α)(k:Nat)(x:α):Nat->α:=λj=>if j=k then x else f j
@[simp] theorem Gi (f:Nat->α) (k:Nat) (x:α):up f k x k=x:=ak rfl
def PJ(f:Nat->α)(k:Nat)(x:α){j:Nat}(h:j≠k):up f k x j=f j:=ae h
def Py(a:Nat->O):List Ce:=[.s (a 0),.s (a 1),.s (a 2),.s (a 3),.s (a 4),.s (a 5),.s (a 6)]
def Sf(a:Nat->O)(b:k<7):(Py a)[k]? =some (.s (a k)):=by
 rcases k with _|_|_|_|_|_|_|k<;>first|rfl|omega
def Ni(a:Nat->O)(b:k<7)(r:O):iO (Py a) k [.s r]=Py (up a k r):=by
 rcases k with _|_|_|_|_|_|_|k<;>first|rfl|omega
structure iX(ro:Nat->Nat)(m:E)(lb:Nat)(sl:Nat->O)(L:Nat->List Int):Prop where
 new:∀b,m.size<=b->ro b=0
 jx:ro lb=8
 box:cz m lb Av (Py sl)
 sq:∀k,k<7->iI ro m ay 1 (k+1) (sl k) ((L k).map Ce.i)
section
variable{f j:Nat->Nat}{a h:E}{d:Nat}{b:Nat->O}{L:Nat->List Int}
def iX.cJ(h:iX f a d b L){k:Nat}(c:k<7):af a d k=some (O.v (b k)):=by
 rw[h.box.cJ,Sf b c];rfl
def iX.pA(h:iX f a d b L){k:Nat}(c:k<7)(e:(L k).length<=10^12):ap a (b k) (L k):=(h.sq k c).pA V
def iX.len(h:iX f a d b L){k:Nat}(c:k<7):(b k).len=(L k).length:=by have:=(h.sq k c).len;simp at this;omega
def iX.to(h:iX f a d b L):To f a f a:=dL.aF _ h.new
def iX.ext(c:iX f a d b L)(e:J a h):iX f h d b L:=
 ⟨λi l=>c.new i (bH e.size l),c.jx,c.box.congr (e.same d c.box.lt),λk g=>(c.sq k g).fS (λj=>e.same _ ((c.sq k g).az j).1) λ_=>rfl⟩
def iX.ku(p:iX f a d b L)(s:k<7)(C:(L k).length<=10^12)(i:Int){K:O->E->Prop}
 (B:∀j r h,To f a j (ai h d k [.s r])->iX j (ai h d k [.s r]) d (up b k r) (up L k (L k++[i]))->K r h):
 jb (a.push (.cells (bD [.i i]) ay)) ay [.i 0] 8 (b k) (.mk a.size 0 1 1) λr h=>fg h d k 1/\K r h:=by
 have z:=J.push a (.cells (bD [.i i]) ay)
 have c:=p.ext z
 have D:=p.len s
 refine iI.append (zs:=[.i 0]) (c:=[.i i]) (c.sq k s) c.new aH ((cz.push a (e:=ay) (l:=[.i i])).jC) (by simp only[O.dS];omega) λj r h v n=>?_
 have x:cz h d Av (Py b):=c.box.congr (n.fS d c.box.lt (by simp only[c.jx];omega))
 have o:j d=8:=by rw[n.jx d c.box.lt,c.jx]
 have A:To f a j h:=(dL.fK _ z p.new).trans (n.mono λt y=>V)
 have u:To f a j (ai h d k [.s r]):=A.trans (dL.ai n.new (by simp only[o];omega) _ _)
 refine⟨x.fg (by show k+1<=7;omega),B j r h u ⟨u.new,o,Ni b s r▸cz.ai (m:=h) x,λt y=>?_⟩⟩
 by_cases g:t=k
 .subst g
  rw[Gi,Gi,eW]
  refine v.fS (λq=>bd _ _ _ _ λg=>?_) λ_=>rfl
  have:=(v.az q).2
  rw[g,o]at this;omega
 .rw[PJ _ _ _ g,PJ _ _ _ g]
  have w:=(c.sq t y).fI n V
  refine w.fS (λq=>bd _ _ _ _ λg=>?_) λ_=>rfl
  have:=(w.az q).2
  rw[g,o]at this;omega
def iX.put(h:iX f a d b L){i:Nat}(r:k<7)(n:i<(L k).length)(x:Int):
 fg a (b k).az ((b k).off+i*1) 1/\iX f (ai a (b k).az ((b k).off+i*1) [.i x]) d b (up L k ((L k).set i x))/\To f a f (ai a (b k).az ((b k).off+i*1) [.i x]):=by
 have g:=h.sq k r
 have s:(L k).map Ce.i≠[]:=λe=>by simp at e;rw[e]at n;simp at n
 have j:(b k).cap≠0:=λj=>s (g.Ew j).1
 let⟨t,l⟩:=g.az j
 have c:To f a f (ai a (b k).az ((b k).off+i*1) [.i x]):=dL.ai h.new (by simp only[l];omega) _ _
 refine⟨g.wr bN,⟨c.new,h.jx,h.box.congr (bd _ _ _ _ λe=>by have:=h.jx;rw[e,l]at this;omega),λp q=>?_⟩,c⟩
 by_cases e:p=k
 .subst e
  rw[Gi]
  have:=g.set (o:=i*1) (new:=[.i x]) bN
  rw[yZ,cO]at this
  rw[cO];exact this
 .rw[PJ _ _ _ e]
  have m:=h.sq p q
  refine m.fS (λj=>bd _ _ _ _ λe=>?_) λ_=>rfl
  have:=(m.az j).2
  rw[e,l]at this;omega
def iX.Xc(h:iX f a d b L)(j:k<7){r:O}{l:List Int}(o:iI f a ay 1 (k+1) r (l.map Ce.i)):
 fg a d k 1/\iX f (ai a d k [.s r]) d (up b k r) (up L k l)/\To f a f (ai a d k [.s r]):=by
 have c:To f a f (ai a d k [.s r]):=dL.ai h.new (by simp only[h.jx];omega) _ _
 refine⟨h.box.fg (by show k+1<=7;omega),⟨c.new,h.jx,Ni b j r▸cz.ai (m:=a) h.box,λn g=>?_⟩,c⟩
 have K:∀{i s l},iI f a ay 1 (i+1) s l->i<7->iI f (ai a d k [.s r]) ay 1 (i+1) s l:=λ{i s l} g' hk'=>by
  refine g'.fS (λp=>bd _ _ _ _ λe=>?_) λ_=>rfl;have:=(g'.az p).2;rw[e,h.jx]at this;omega
 by_cases e:n=k
 .subst e
  rw[Gi,Gi];exact K o j
 .rw[PJ _ _ _ e,PJ _ _ _ e];exact K (h.sq n g) g
def iX.cut(h:iX f a d b L){k n:Nat}(c:k<7)(l:n<=(L k).length):
 n<=(b k).cap/\fg a d k 1/\iX f (ai a d k [.s ((b k).cut 0 n 1)]) d (up b k ((b k).cut 0 n 1)) (up L k ((L k).take n))/\To f a f (ai a d k [.s ((b k).cut 0 n 1)]):=by
 have g:=h.sq k c
 have i:=h.len c
 have j:=g.le
 have e:=g.cut (n:=n) V
 rw[cO,<-Np]at e
 exact⟨V,h.Xc c e⟩
end
structure pF(ds:List bo)(n b:Nat)(L:Nat->List Int):Prop where
 len:∀k,k<6->(L k).length=n
 W7:∀(v:Nat)(p:Int),(L 2)[v]? =some p->p<v
 OB:∀(v:Nat)(c f:Int),(L 3)[v]? =some c->(L 4)[v]? =some f->0<=c->0<=f/\f+((bZ ds c).length:Int)<=b
 df:(L 6).length<=10^12
abbrev rL(a:List bo)(n:Nat)(L:Nat->List Int):Prop:=pF a n n L
def Kh(L:Nat->List Int)(t o p:Int):Nat->List Int:=up (up (up (up (up (up L 0 (L 0++[t])) 1 (L 1++[o])) 2 (L 2++[p])) 3 (L 3++[-1])) 4 (L 4++[-1])) 5 (L 5++[-1])
def zG{j:Nat->Nat}{m:E}{b:Nat}{x:Nat->O}{L:Nat->List Int}(h:iX j m b x L)(a:∀k,k<6->(L k).length<=10^12)(t o p:Int):
 aN cq 267 [vp b 0,vi t,vi o,vi p] m λ_ i=>∃l y,To j m l i/\iX l i b y (Kh L t o p):=by
 apply wy (b,0)
 simp -zeta only[bE]
 refine⟨_,h.cJ (k:=0) bh,?_⟩
 intro z
 refine h.ku (k:=0) bh (a 0 bh) t λN U G n c=>⟨_,c.cJ (k:=1) bh,?_⟩
 intro A
 refine c.ku (k:=1) bh (a 1 bh) o λP V H q d=>⟨_,d.cJ (k:=2) bh,?_⟩
 intro B
 refine d.ku (k:=2) bh (a 2 bh) p λQ W I r e=>⟨_,e.cJ (k:=3) bh,?_⟩
 intro C
 refine e.ku (k:=3) bh (a 3 bh) (-1) λR X J s f=>⟨_,f.cJ (k:=4) bh,?_⟩
 intro D
 refine f.ku (k:=4) bh (a 4 bh) (-1) λS Y K u g=>⟨_,g.cJ (k:=5) bh,?_⟩
 intro F
 exact g.ku (k:=5) bh (a 5 bh) (-1) λT Z M v w=>⟨_,_,((((n.trans q).trans r).trans s).trans u).trans v,w⟩
end
section
variable{l:List Int}{d:Nat->Nat}{a:E}{P:(Nat->List Int)->Prop}{b:Nat}{v:Int}
def GI.bB{S:List Nat}{n m:E}{s:O}(h:GI S n m s l):fZ n m ay 1 s (l.map Ce.i):=by
 have u:=h.len bh;let⟨r,d,o,a⟩:=h;have t:d.flatten.length=l.length:=by rw[dp a.size,a.len];omega
 have q:d.flatten=l.map Ce.i:=by
  apply eL;intro e;rcases aU e l.length with b|b
  .let⟨x,k⟩:=dI b;let⟨f,j⟩:=cg d e (by rw[a.len];exact b);have p:f=[.i x]:=a.de e f x j k;have g:=iJ (g:=1) a.size j (i:=0) (c:=.i x) (by rw[p];rfl);simp only[cO,jm]at g;rw[g];simp[k]
  .rw[bT V,bT (by simpa using b)]
 rw[<-q];exact o
def AX(f:Nat->Nat)(m:E)(e:Nat)(P:(Nat->List Int)->Prop)(v:Value)(a:E):Prop:=∃(b:Bool)(d:Nat->Nat),v=vb b/\To f m d a/\(b=true->∃g c,iX d a e g c/\P c)
def AX.no{b:Nat->Nat}{m:E}{c:Nat}(h:To b m d a):AX b m c P (vb false) a:=⟨false,d,rfl,h,aH⟩
def AX.OD{c:Nat->Nat}{m:E}{b:Nat}{e:Nat->O}{L:Nat->List Int}(h:To c m d a)(f:iX d a b e L)(g:P L):AX c m b P (vb true) a:=⟨true,d,rfl,h,λ_=>⟨e,L,f,g⟩⟩
def AX.mono{e:Nat->Nat}{m:E}{c:Nat}{Q:(Nat->List Int)->Prop}{v:Value}(h:AX e m c P v a)(n:∀L,P L->Q L):AX e m c Q v a:=let⟨b,d,f,g,i⟩:=h;⟨b,d,f,g,λl=>let⟨o,L,j,k⟩:=i l;⟨o,L,j,n L k⟩⟩
def pF.ba{a:List bo}{n:Nat}{L:Nat->List Int}(h:pF a n b L)(g:l.length=n):pF a n b (up L 1 l):=
 ⟨λk d=>by by_cases e:k=1<;>simp_all [up,h.len k],λv p=>by simpa[up]using h.W7 v p,λv c f=>by simpa[up]using h.OB v c f,by simpa[up]using h.df⟩
def pF.tok{a:List bo}{n:Nat}{L:Nat->List Int}(h:pF a n b L)(g:l.length=n):pF a n b (up L 5 l):=
 ⟨λk d=>by by_cases e:k=5<;>simp_all [up,h.len k],λv p=>by simpa[up]using h.W7 v p,λv c f=>by simpa[up]using h.OB v c f,by simpa[up]using h.df⟩
def Kf{b x:Int}{v:Nat}(h:(l++[b])[v]? =some x):l[v]? =some x\/v=l.length/\x=b:=by
 rcases aU v l.length with a|a
 .rw[aw a]at h;exact Or.inl h
 .rw[aG a]at h;have:=ax h;simp at this;have e:v=l.length:=V;subst e;simp at h;exact Or.inr ⟨rfl,h.symm⟩
def pF.CG{c:List bo}{n a:Nat}{L:Nat->List Int}(h:pF c n b L)(j:b<=a):pF c n a L:=
 ⟨h.len,h.W7,λv d f g i e=>oh (h.OB v d f g i e),h.df⟩
def pF.NQ{f:List bo}{n:Nat}{L:Nat->List Int}(h:pF f n b L)(u t:Int){p:Int}(r:p<n):pF f (n+1) b (Kh L u t p):=by
 have a:=h.len;refine⟨λk w=>?_,λv q s=>?_,λv e g j m i=>?_,by simpa[Kh,up]using h.df⟩
 .rcases k with _|_|_|_|_|_|k<;>first|omega|(simp[Kh,up,a])
 .have d:(L 2++[p])[v]? =some q:=by simpa[Kh,up]using s
  rcases Kf d with c|⟨rfl,rfl⟩
  .exact h.W7 v q c
  .rw[a 2 bh];exact r
 .have l:(L 3++[-1])[v]? =some e:=by simpa[Kh,up]using j
  have o:(L 4++[-1])[v]? =some g:=by simpa[Kh,up]using m
  rcases Kf l with c|⟨rfl,rfl⟩
  .rcases Kf o with d|⟨d,rfl⟩
   .have:=h.OB v e g c d i;omega
   .have:=ax c;rw[a 4 bh]at d;rw[a 3 bh]at this;omega
  .omega
section
variable{f:Nat->Nat}{m:E}{e:Nat}{g:Nat->O}{L:Nat->List Int}{h:List bo}{c:Nat}
def iX.aO(h:iX f m e g L){k:Nat}(b:k<7)(c:(L k).length<=10^12){i:Nat}{x:Int}(a:(L k)[i]? =some x):af m (g k).az ((g k).off+i*1)=some (vi x):=(h.pA b c).aO a
def ua(a:iX f m e g L)(q:rL h c L)(u:c<=10^12)(b:0<=v)(s:v<c):aN cq 268 [vp e 0,vi v] m (AX f m e λd=>∃l:List Int,l.length=c/\d=up L 1 l):=by
 apply wB (e,0);simp -zeta only[bE];have o:=q.len 1 bh;have t:=a.len (k:=1) bh;let⟨x,r⟩:=cg (L 1) v.toNat;have j:=a.aO bh V r;have d:=a.cJ (k:=1) bh;let⟨w,p,n⟩:=a.put (k:=1) (i:=v.toNat) bh V (cQ (x -1));exact⟨_,d,b,V,x,j,λ_=>.no a.to,λ_=>⟨_,d,_,d,b,V,x,j,b,V,w,.OD n p ⟨_,by simp[o],rfl⟩⟩⟩
def rR(q:iX f m e g L)(j:rL h c L)(t:c<=10^12)(i:0<=v)(o:v<c):nY 228 [vp e 0,vi v] m:=by
 apply vu (e,0);refine⟨λv a=>0<=v/\v<(c:Int)/\J m a,λv _=>v.toNat,⟨i,o,J.aF _⟩,?_⟩;rintro v A ⟨i,o,d⟩;have H:=q.ext d;have w:=H.len (k:=1) bh;have z:=H.len (k:=2) bh;have C:=j.len 1 bh;have D:=j.len 2 bh;let⟨x,s⟩:=cg (L 1) v.toNat;let⟨y,p⟩:=cg (L 2) v.toNat;have u:=j.W7 _ _ p;refine⟨_,H.cJ (k:=1) bh,i,V,x,H.aO bh V s,λ_=>⟨_,H.cJ (k:=6) bh,?_⟩,λ_=>rA d⟩;refine(dg (H.pA (k:=6) bh j.df) v).then λb B _ l=>⟨_,rfl,λ_=>?_,λ_=>rA (d.trans l)⟩;have n:=H.ext l;refine⟨_,n.cJ (k:=2) bh,i,V,y,n.aO bh V p,λ_=>rA (d.trans l),λr=>?_⟩;simp only[br]at r;exact⟨⟨V,V,d.trans l⟩,by show y.toNat<v.toNat;omega⟩
def KW(i:iX f m e g L)(u:rL h c L)(R:c<=10^12){b:Nat}(H:b<=c):aN cq 291 [vp e 0,vi b] m (AX f m e λd=>(∀j,j<6->(d j).length=b)/\(d 6).length<=10^12):=by
 apply xR (e,0);simp -zeta only[bE];refine⟨λv a=>(b:Int)<=v/\v<=c/\a=m,λv _=>((c:Int) -v).toNat,⟨V,V,rfl⟩,?_⟩;rintro v W ⟨P,p,rfl⟩;have o:=λj(G:j<6)=>i.len (k:=j) V;have d:=u.len;have S:=o 0 bh;have T:=o 1 bh;have U:=o 5 bh;have n0:=d 0 bh;have n1:=d 1 bh;have n5:=d 5 bh;refine⟨_,i.cJ (k:=0) bh,λw=>?_,λw=>?_⟩
 .simp only[an]at w;let⟨x,q⟩:=cg (L 1) v.toNat;let⟨y,r⟩:=cg (L 5) v.toNat;refine⟨_,i.cJ (k:=1) bh,V,V,x,i.aO bh V q,λ_=>.no i.to,λ_=>⟨_,i.cJ (k:=5) bh,V,V,y,i.aO bh V r,λ_=>.no i.to,λ_=>?_⟩⟩;rw[aQ V V];exact⟨⟨V,V,rfl⟩,by show((c:Int) -(v+1)).toNat<((c:Int) -v).toNat;omega⟩
 .have tk:∀{l:List Int},l.length=c->(l.take b).length=b:=λQ=>bN;have D:Int.toNat (0:Int)=0:=rfl;have E:Int.toNat (b:Int)=b:=V;rw[D,E];let⟨p1,I,p,x⟩:=i.cut (k:=0) (n:=b) bh (by rw[d 0 bh];exact H);refine⟨_,i.cJ (k:=0) bh,V,V,V,I,?_⟩;intro X;let⟨p2,J,q,y⟩:=p.cut (k:=1) (n:=b) bh (by simp[up,d];omega);refine⟨_,p.cJ (k:=1) bh,V,V,V,J,?_⟩;intro Y;let⟨p3,K,r,z⟩:=q.cut (k:=2) (n:=b) bh (by simp[up,d];omega);refine⟨_,q.cJ (k:=2) bh,V,V,V,K,?_⟩;intro Z;let⟨p4,M,s,A⟩:=r.cut (k:=3) (n:=b) bh (by simp[up,d];omega);refine⟨_,r.cJ (k:=3) bh,V,V,V,M,?_⟩;intro m5;let⟨p5,N,t,B⟩:=s.cut (k:=4) (n:=b) bh (by simp[up,d];omega);refine⟨_,s.cJ (k:=4) bh,V,V,V,N,?_⟩;intro m6;let⟨p6,O,F,C⟩:=t.cut (k:=5) (n:=b) bh (by simp[up,d];omega);refine⟨_,t.cJ (k:=5) bh,V,V,V,O,?_⟩;intro m7;refine AX.OD (((((x.trans y).trans z).trans A).trans B).trans C) F ⟨λj G=>?_,?_⟩
  .rcases j with _|_|_|_|_|_|j<;>first|omega|(simp[up,d];omega)
  .simpa[up]using u.df
end
end
section
variable{a:Nat->Nat}{m d c:E}{X:List Nat}
def XN(m:E)(P:(Nat->List Int)->Prop)(v:Value)(c:E):Prop:=∃d,v=vp d 0/\J m c/\∃a e L,(∀b,b<m.size->a b=0)/\iX a c d e L/\P L
def Mh{t:Nat}{sl:Nat->O}{L:Nat->List Int}(h:iX a m t sl L)(S:∀b,b<7->(L b).length<=10^12):
 aN cq 289 [vp t 0] m (XN m λc=>∀b,b<7->c b=L b):=by
 apply uy (t,0)
 simp -zeta only[bE]
 refine⟨_,h.cJ (k:=0) bh,_,h.cJ (k:=1) bh,_,h.cJ (k:=2) bh,_,h.cJ (k:=3) bh,_,h.cJ (k:=4) bh,_,h.cJ (k:=5) bh,_,h.cJ (k:=6) bh,?_⟩
 have C:∀{M:E}(b:Nat),b<7->J m M->iU 50 [O.v (sl b)] M [] (L b=·):=λb z y=>bO [] ((h.ext y).pA z (S b z)) (S b z)
 have c:∀{M H:E},J m M->J M H->∀B,af H t B=af M t B:=λy x' B=>aK (x'.same t (y.lt h.box.lt)) B
 have i:=J.aF m
 refine(C 0 bh i).then λU _ m1 I e d=>⟨_,rfl,c i d _,c i d _,c i d _,c i d _,c i d _,c i d _,?_⟩
 subst e
 refine(C 1 bh d).then λW _ m2 g1 e j=>⟨_,rfl,c d j _,c d j _,c d j _,c d j _,c d j _,?_⟩
 subst e
 have u:=d.trans j
 refine(C 2 bh u).then λX _ m3 g2 e l=>⟨_,rfl,c u l _,c u l _,c u l _,c u l _,?_⟩
 subst e
 have x:=u.trans l
 refine(C 3 bh x).then λY _ m4 K e n=>⟨_,rfl,c x n _,c x n _,c x n _,?_⟩
 subst e
 have D:=x.trans n
 refine(C 4 bh D).then λZ _ m5 N e o=>⟨_,rfl,c D o _,c D o _,?_⟩
 subst e
 have G:=D.trans o
 refine(C 5 bh G).then λs5 _ m6 P e p=>⟨_,rfl,c G p _,?_⟩
 subst e
 have u6:=G.trans p
 refine(C 6 bh u6).then λs6 _ v Q e q=>⟨_,rfl,?_⟩
 subst e
 intro w
 have r:J v w:=J.push _ _
 have z0:=i.size;have z1:=d.size;have z2:=j.size;have z3:=l.size;have z4:=n.size;have z5:=o.size;have z6:=p.size;have z7:=q.size
 have s8:w.size=v.size+1:=by simp[w]
 have y0:=I.bg;have y1:=g1.bg;have y2:=g2.bg;have y3:=K.bg;have y4:=N.bg;have y5:=P.bg;have y6:=Q.bg
 let f:Nat->Nat:=λg=>if g<m.size then 0 else if g<m1.size then 1 else if g<m2.size then 2 else if g<m3.size then 3 else if g<m4.size then 4 else if g<m5.size then 5 else if g<m6.size then 6 else if g<v.size then 7 else if g=v.size then 8 else 0
 let ab:Nat->O:=λb=>if b=0 then U else if b=1 then W else if b=2 then X else if b=3 then Y else if b=4 then Z else if b=5 then s5 else s6
 have A:∀{m0 M:E}{F:O}{T:List Int}{b:Nat},GI [] m0 M F T->J M w->f F.az=b->iI f w ay 1 b F (T.map Ce.i):=λaa y hr=>iI.fP (aa.bB.ext y) λ_=>hr
 refine⟨v.size,rfl,u6.trans (q.trans r),f,ab,L,λg R=>ak R,⟨λg R=>?_,?_,cz.push _ _ _,λb z=>?_⟩,λ_ _=>rfl⟩
 .simp only[f]
  repeat rw[ae V]
 .simp only[f]
  repeat rw[ae V]
  simp
 .rcases b with _|_|_|_|_|_|_|b
  .exact A (F:=U) (b:=1) I (j.trans (l.trans (n.trans (o.trans (p.trans (q.trans r)))))) (by simp only[f];rw[ae V,ak V])
  .exact A (F:=W) (b:=2) g1 (l.trans (n.trans (o.trans (p.trans (q.trans r))))) (by simp only[f];rw[ae V,ae V,ak V])
  .exact A (F:=X) (b:=3) g2 (n.trans (o.trans (p.trans (q.trans r)))) (by simp only[f];rw[ae V,ae V,ae V,ak V])
  .exact A (F:=Y) (b:=4) K (o.trans (p.trans (q.trans r))) (by simp only[f];rw[ae V,ae V,ae V,ae V,ak V])
  .exact A (F:=Z) (b:=5) N (p.trans (q.trans r)) (by simp only[f];rw[ae V,ae V,ae V,ae V,ae V,ak V])
  .exact A (F:=s5) (b:=6) P (q.trans r) (by simp only[f];rw[ae V,ae V,ae V,ae V,ae V,ae V,ak V])
  .exact A (F:=s6) (b:=7) Q r (by simp only[f];rw[ae V,ae V,ae V,ae V,ae V,ae V,ae V,ak V])
  .omega
structure Gt(d:E)(X:List Nat)(a:Nat->Nat)(m:E):Prop where
 ext:J d m
 fR:∀b,b<d.size->a b=0
 box:∀b∈X,b<m.size/\a b=0
def Gt.to{g:Nat->Nat}(h:Gt d X a m)(e:To a m g c):Gt d X g c:=by
 let⟨i,j⟩:=e.cG h.ext h.fR;exact⟨i,j,λb f=>⟨aJ (h.box b f).1 e.size,by rw[e.jx b (h.box b f).1];exact(h.box b f).2⟩⟩
def Gt.da{d m c:E}{X:List Nat}{a e:Nat->Nat}(h:Gt d X a m)(b:To a m e c):eG X m c:=b.da h.box
def Gt.fW(h:Gt d X a m)(x:J m c):Gt d X a c:=⟨h.ext.trans x,h.fR,λb e=>⟨x.lt (h.box b e).1,(h.box b e).2⟩⟩
def HD{p I aa:O}{q:eP}(s:ap m p q.params)(F:ap m I q.df)(ad:q.params.length<=3)(ac:q.df.length<=3)(w:List bo):
 aN cq 254 [.agg #[O.v p,O.v I,vi q.aR,O.v aa,vi q.body.aR]] m (XN m (rL w q.params.length)):=by
 apply zR
 simp -zeta only[aE,aD]
 intro e
 have v:J m e:=J.push _ _
 have s1:e.size=m.size+1:=by simp[e]
 have W:∀b∈[m.size],b<e.size:=by simp[e]
 clear_value e
 refine(bO [] (F.ext v) V).aI (J.aF e) W λs6 _ f D o K _=>⟨_,rfl,?_⟩
 subst o
 intro t
 have P:J f t:=J.push _ _
 have s3:t.size=f.size+1:=by simp[t]
 have z2:=K.size
 have y6:=D.bg
 let h:Nat->Nat:=λb=>if b<e.size then 0 else if b<f.size then 7 else if b=f.size then 8 else 0
 let d:Nat->List Int:=λk=>if k<6 then[]else q.df
 let r:Nat->O:=λk=>if k<6 then .nil else s6
 have R:iX h t f.size r d:=by
  refine⟨λb l=>?_,?_,cz.push _ _ _,λk B=>?_⟩
  .simp only[h];repeat rw[ae V]
  .simp only[h];repeat rw[ae V]
   simp
  .by_cases g:k<6
   .simp only[r,d,ak g];exact⟨aH,aH,Or.inl rfl⟩
   .have o:k=6:=V;subst o;simp only[r,d,ae g];refine iI.fP (D.bB.ext P) λ_=>?_;simp only[h];rw[ae V,ak V]
 have T:rL w 0 d:=by
  refine⟨λk B=>by simp only[d,ak B];rfl,λg p s=>by simp[d]at s,λg j i z=>by simp[d]at z,by simp[d];omega⟩
 have fR:∀b,b<e.size->h b=0:=λb l=>ak l
 clear_value h d r
 have ag:=s.len
 refine dZ (n:=q.params.length) V (λk M=>∃a C L,Gt e [m.size] a M/\iX a M f.size C L/\rL w k L) ⟨h,r,d,⟨K.trans P,fR,λb l=>by simp at l;subst l;exact⟨V,fR _ V⟩⟩,R,T⟩ ?_
 rintro k M S μ B ⟨a,C,L,i,H,A⟩ Z
 refine dit (λU=>?_) λU=>?_
 .let⟨y,X⟩:=cg q.params k
  have N:∀(u:Int){g:E},J M g->aN cq 267 [vp f.size 0,vi y,vi u,vi (-1:Int)] g λ_ c=>eG [m.size] g c/\S (cQ ((k:Int)+1)) c/\μ (cQ ((k:Int)+1)) c<μ k M:=λu g x=>
   (zG (H.ext x) (λY Q=>by rw[A.len Y Q];omega) y u (-1)).mono λ_ c⟨Y,ab,j,Q⟩=>⟨(i.fW x).da j,Z V _ ⟨Y,ab,_,(i.fW x).to j,Q,(A.NQ y u V).CG V⟩⟩
  have G:∀{g:E},J M g->af g p.az (p.off+Int.toNat (k:Int)*1)=some (vi y):=λx=>(s.ext (v.trans (i.ext.trans x))).aO X
  refine⟨V,V,y,G (J.aF _),λ_=>?_,λ_=>⟨V,V,y,G (J.aF _),N 0 (J.aF _)⟩⟩
  refine(dg (F.ext (v.trans i.ext)) (k:Int)).then λb M2 _ x=>⟨λj z=>x.same j (i.box j z).1,_,rfl,λ_=>⟨V,V,y,G x,N 1 x⟩,λ_=>⟨V,V,y,G x,N 0 x⟩⟩
 .have o:k=q.params.length:=V
  subst o
  exact⟨f.size,rfl,v.trans i.ext,a,C,L,λb l=>i.fR b V,H,A⟩
end
section
def iX.VF{b:Nat->Nat}{m f:E}{q:Nat}{a:Nat->O}{L:Nat->List Int}(h:iX b m q a L)(fR:∀c,c<f.size->b c=0){k p:Nat}(l:k<7)(c:p<(L k).length):f.size<=(a k).az/\(a k).az<m.size/\b (a k).az=k+1:=by
 have g:=h.sq k l;have o:(L k).map Ce.i≠[]:=λe=>by simp at e;rw[e]at c;simp at c
 let⟨j,d⟩:=g.az λi=>o (g.Ew i).1;refine⟨Gm λn=>?_,j,d⟩;rw[fR _ n]at d;omega
def Gt.S0{c m a g:E}{d:Nat->Nat}{o1 o2:Obj}(j:J c m)(fR:∀b,b<c.size->d b=0)(k:∀b,m.size<=b->d b=0)(e:a=m.push o1)(h:g=a.push o2):Gt c [a.size,m.size] d g:=by
 let⟨l,i⟩:=dj e h;subst e;exact⟨j.trans l,fR,λb f=>⟨i b f,k b (by simp at f;omega)⟩⟩
section
variable{e:Nat->Nat}{m b:E}{g:Nat}{p:Nat->O}{L:Nat->List Int}{f:List bo}{l:List eP}{h:Nat}{d r a o:O}{x:cE}{c:Prop}{q:List Nat}
def PB(hx:J b m)(fR:∀u,u<b.size->e u=0)(K:iX e m g p L)(N:rL f h L)(hn:h<=10^12)(hN:dX b d r f l)(ha:ap b a x.args)(hf:OI f q c h x)(ao:14<=x.op):
 aN cq 269 [vp g 0,.agg #[O.v d,O.v r],oE x a o] m (AX e m g (rL f h)):=by
 apply wz (g,0)
 simp -zeta only[aE,aD,bE]
 intro P Q
 have st:=Gt.S0 (a:=P) (g:=Q) hx fR K.new rfl rfl
 have x2:J m Q:=(dj (a:=P) (c:=Q) rfl rfl).1
 have W:To e m e Q:=dL.fK _ x2 K.new
 clear_value Q
 clear_value P
 have D:=K.ext x2
 have aA:=ha.len
 have az:=hf.ln (Or.inl ao)
 let⟨A,hy⟩:=cg x.args 0
 let⟨G,y1⟩:=hf.args A (aq hy)
 have U:=N.len
 have n1:=U 1 bh;have n3:=U 3 bh;have n4:=U 4 bh;have n5:=U 5 bh
 have l3:=D.len (k:=3) bh;have l5:=D.len (k:=5) bh
 let⟨B,ae⟩:=cg (L 3) A.toNat
 let⟨v,ag⟩:=cg (L 4) A.toNat
 let⟨tk,au⟩:=cg (L 5) A.toNat
 refine⟨bh,V,A,(ha.ext st.ext).aO hy,?_⟩
 refine⟨λM=>0<=B/\∃R af s,s.length=h/\To e m R M/\Gt b [P.size,m.size] R M/\iX R M g af (up L 1 s),?_,?_⟩
 .refine⟨_,D.cJ (k:=3) bh,G,V,B,D.aO bh V ae,λ_=>.no W,λw=>?_⟩
  simp only[br]at w
  refine⟨λ_=>⟨_,D.cJ (k:=5) bh,G,V,tk,D.aO bh V au,λ_=>.no W,λ_=>?_⟩,λ_=>?_⟩<;>
  .refine(ua D N hn G y1).mono λax m3⟨u,R,ac,H,y⟩=>⟨st.da H,u,ac,λC=>.no (W.trans H),λC=>?_⟩
   obtain⟨af,z,t,s,hl,rfl⟩:=y (by simpa using C)
   exact⟨V,R,af,s,hl,W.trans H,st.to H,t⟩
 .rintro m3 ⟨al,aa,F,s,hl,H,S,y⟩
  have e3:(up L 1 s) 3=L 3:=rfl
  have e4:(up L 1 s) 4=L 4:=rfl
  have e5:(up L 1 s) 5=L 5:=rfl
  have e1:(up L 1 s) 1=s:=rfl
  have av:=y.len (k:=3) bh
  rw[e3]at av
  let⟨f0,f1⟩:=N.OB A.toNat B v ae ag al
  refine⟨_,y.cJ (k:=3) bh,G,V,B,y.aO bh (by rw[e3];omega) ae,?_⟩
  have A1:=y.VF (f:=b) S.fR (k:=1) (p:=A.toNat) bh (by rw[e1];omega)
  have A5:=y.VF (f:=b) S.fR (k:=5) (p:=A.toNat) bh (by rw[e5];omega)
  have hS:∀u∈[(F 1).az,(F 5).az],u<m3.size:=λu C=>by simp at C;omega
  have ak:∀{M:E},J b M->Le b (bG [(F 1).az,(F 5).az] M):=λxx=>(yS b).trans (xx.bG λu C=>Or.inr (by simp at C;omega))
  refine(dC hS (hN.bt.le (ak S.ext)) hN.types B).mono λax m4⟨aj,fl,ac,hs,am,x4⟩=>⟨λu C=>x4.same u (S.box u C).1,aj,ac,?_⟩
  subst am
  have c4:To e m aa m4:=H.trans (dL.fK _ x4 y.new)
  have aC:=hs.len
  have f3:=EB hN.types B
  refine dZ (n:=(bZ f B).length) V (λz M=>∃s,s.length=h/\To e m aa M/\Gt b [P.size,m.size] aa M/\iX aa M g F (up L 1 s)/\Fz [(F 1).az,(F 5).az] m4 M) ⟨s,hl,c4,(S.fW x4),(y.ext x4),Fz.aF _ _⟩ ?_
  rintro z M ay μ aB ⟨w,Z,X,ab,t,ad⟩ ai
  have ar:=hs.le (ad.cR λ_ K=>K)
  refine⟨λah=>?_,λah=>?_⟩
  .simp only[an]at ah
   let⟨aw,hz⟩:=cg (bZ f B) z
   refine⟨V,V,aw,(ar.le (bz _ _)).aO hz,λ_=>?_,λ_=>ai V _ ⟨w,Z,X,ab,t,ad⟩⟩
   have E3:(up L 1 w) 4=L 4:=rfl
   have E1:(up L 1 w) 1=w:=rfl
   have G1:=t.cJ (k:=1) bh
   have G4:=t.cJ (k:=4) bh
   have l4:=t.len (k:=4) bh
   have l1:=t.len (k:=1) bh
   rw[E3]at l4;rw[E1]at l1
   have V4:=t.aO (k:=4) bh (by rw[E3];omega) ag
   have ew:cQ (v+(z:Int))=v+z:=aQ V V
   let⟨T,hw⟩:=cg w ((v+(z:Int)).toNat)
   let⟨wr,Y,I⟩:=t.put (k:=1) (i:=(v+(z:Int)).toNat) bh (by rw[E1];omega) (cQ (T+1))
   refine⟨_,G1,_,G4,G,V,v,V4,_,G1,_,G4,G,V,v,V4,?_⟩
   rw[ew]
   refine⟨V,V,T,t.aO (k:=1) bh (by rw[E1];omega) hw,V,V,wr,ab.da I,ai V _ ⟨w.set (v+(z:Int)).toNat (cQ (T+1)),by simp[Z],X.trans I,ab.to I,?_,ad.ai (Or.inl aH) _ _⟩⟩
   have:up (up L 1 w) 1 ((up L 1 w) 1|>.set (v+(z:Int)).toNat (cQ (T+1)))=up L 1 (w.set (v+(z:Int)).toNat (cQ (T+1))):=by funext j;simp only[up];split<;>rfl
   rw[this]at Y;exact Y
  .refine⟨λ_=>?_,λ_=>.OD X t (N.ba Z)⟩
   have T:(up L 1 w) 5=L 5:=rfl
   have aw:=t.len (k:=5) bh
   rw[T]at aw
   let⟨wr,Y,I⟩:=t.put (k:=5) (i:=A.toNat) bh (by rw[T];omega) (aj.len:Int)
   exact⟨_,t.cJ (k:=5) bh,G,V,wr,ab.da I,.OD (X.trans I) Y ((N.ba Z).tok (by rw[T];simp[n5]))⟩
def I7(hx:J b m)(fR:∀j,j<b.size->e j=0)(Q:iX e m g p L)(hi:rL f h L)(hn:h<=10^12)(hN:dX b d r f l)(B:ap b a x.args)(D:OI f (pc l) c h x):
 aN cq 271 [vp g 0,.agg #[O.v d,O.v r],oE x a o] m (AX e m g (rL f h)):=by
 apply sQ (g,0)
 simp -zeta only[aE,aD,bE]
 intro K H
 have st:=Gt.S0 (a:=K) (g:=H) hx fR Q.new rfl rfl
 have x2:J m H:=(dj (a:=K) (c:=H) rfl rfl).1
 have c2:To e m e H:=dL.fK _ x2 Q.new
 clear_value H
 clear_value K
 have aa:=B.len
 have Z:∀{M:E},J b M->At M d r a o f l x:=λxx=>⟨hN.le xx.le,B.ext xx,D.bL⟩
 refine dZ (n:=x.args.length) (aa▸B.fu) (λ_ M=>∃t T N,rL f h N/\To e m t M/\Gt b [K.size,m.size] t M/\iX t M g T N) ⟨e,p,L,hi,c2,st,(Q.ext x2)⟩ ?_
 rintro ab M ag μ ah ⟨S,af,Y,v,P,C,s⟩ ad
 refine⟨λF=>?_,λF=>?_⟩
 .simp only[an]at F
  let⟨I,G⟩:=cg x.args ab
  let⟨W,X⟩:=D.args I (aq G)
  have N0:=v.len 0 bh
  refine⟨_,s.cJ (k:=0) bh,?_⟩
  refine(lY (Z C.ext) (s.pA (k:=0) bh V) (by rw[N0];exact D.args) (h:=ab) V).mono λU m4⟨j,z,q⟩=>⟨λj u=>q.same j (C.box j u).1,j,z,λ_=>⟨V,V,I,(B.ext (C.ext.trans q)).aO G,?_⟩,λ_=>ad V _ ⟨S,af,Y,v,P.trans (dL.fK _ q s.new),C.fW q,s.ext q⟩⟩
  have w:=C.fW q
  have y:To e m S m4:=P.trans (dL.fK _ q s.new)
  refine(ua (s.ext q) v hn W X).mono λU m5⟨j,t,z,A,h5⟩=>⟨w.da A,j,z,λu=>.no (y.trans A),λu=>?_⟩
  obtain⟨T,N,R,ac,hl,rfl⟩:=h5 (by simpa using u)
  exact ad V _ ⟨t,T,_,v.ba hl,y.trans A,w.to A,R⟩
 .refine dZ (n:=x.args.length) (aa▸B.fu) (λ_ t=>J M t) (J.aF _) ?_
  rintro T M4 I4 μ4 ai q ac
  have w:=C.fW q
  have y:To e m S M4:=P.trans (dL.fK _ q s.new)
  have t:=s.ext q
  refine⟨λF=>?_,λF=>⟨λae=>?_,λ_=>.OD y t v⟩⟩
  .simp only[an]at F
   let⟨I,G⟩:=cg x.args T
   let⟨W,X⟩:=D.args I (aq G)
   refine(ns (Z w.ext) (T:Int)).mono λU m5⟨j,z,A⟩=>⟨λj u=>A.same j (w.box j u).1,j,z,λ_=>⟨V,V,I,(B.ext (w.ext.trans A)).aO G,?_⟩,λ_=>ac V _ (q.trans A)⟩
   refine(rR (t.ext A) v hn W X).mono λU m6⟨j,z,N⟩=>⟨λj u=>N.same j (A.lt (w.box j u).1),j,z,λ_=>.no (y.trans (dL.fK _ (A.trans N) t.new)),λ_=>ac V _ ((q.trans A).trans N)⟩
  .simp only[an]at ae
   have I:=D.bW
   have u:=v.len 5 bh
   have N:=t.len (k:=5) bh
   have z:cQ (x.bW -1)=x.bW -1:=aQ V V
   let⟨G,A⟩:=cg (Y 5) ((x.bW -1).toNat)
   let⟨wr,R,j⟩:=t.put (k:=5) (i:=(x.bW -1).toNat) bh V (-1)
   rw[z]
   exact⟨_,t.cJ (k:=5) bh,V,V,G,t.aO (k:=5) bh V A,λ_=>.no y,λ_=>⟨_,t.cJ (k:=5) bh,V,V,wr,w.da j,.OD (y.trans j) R (v.tok (by simp[u]))⟩⟩
end
end
section
variable{M:E}
def Ng(a:Nat->Nat)(m:E):List Nat:=(List.range m.size).filter λb=>a b≠0
def Pu(c:Nat->Nat)(m:E):∀b∈Ng c m,b<m.size:=λb a=>by simp[Ng]at a;exact a.1
def Se{d:Nat->Nat}{m a:E}(fR:∀b,b<a.size->d b=0)(e:J a M):Le a (bG (Ng d m) M):=
 (yS a).trans (e.bG λb c=>Or.inr (by
  simp[Ng]at c;exact Gm λh=>c.2 (fR b h)))
def dL.ZU{a l:Nat->Nat}{m f:E}(h:To a f l M)(k:∀b,m.size<=b->a b=0):Le (bG (Ng a m) f) M:=λb o v j=>by
 let⟨d,e⟩:=dY.1 j;have i:=lH e;have g:a b=0:=by
  rcases aU b m.size with c|c
  .simp[Ng]at d;exact d c
  .exact k b c
 rw[aK (h.fS b i (by simp[g]))];exact e
def QS(c:List bo)(h:List eP)(i:Prop)(b:Bk):Prop:=∀(e:Nat->Nat)(m a:E)(d:Nat)(l:Nat->O)(L:Nat->List Int)(n k:Nat)(g r t:O),J a m->(∀b,b<a.size->e b=0)->iX e m d l L->rL c n L->WB c (pc h) i n b->n+4*b.w<=10^12->k<=n->dX a g r c h->eH a t b.aC->
 aN cq 290 [vp d 0,.agg #[O.v g,O.v r],.agg #[O.v t,vi b.aR],vi k] m (AX e m d λf=>(∀j,j<6->(f j).length=k)/\(f 6).length<=10^12)
def WG(m:E)(n:Nat)(v:Value)(c:E):Prop:=∃(a:Nat)(d:Bool),v=.tuple #[vp a 0,vb d]/\J m c/\(d=true->∃e f L,(∀b,b<m.size->e b=0)/\iX e c a f L/\∀j,j<6->(L j).length=n)
def pF.same{c:List bo}{n b:Nat}{L a:Nat->List Int}(h:pF c n b L)(e:∀k,k<7->a k=L k):pF c n b a:=
 ⟨λk d=>by rw[e k V];exact h.len k d,by rw[e 2 bh];exact h.W7,by rw[e 3 bh,e 4 bh];exact h.OB,by rw[e 6 bh];exact h.df⟩
section
variable{o:Nat->Nat}{m g:E}{j:Nat}{f:Nat->O}{L:Nat->List Int}{e:List bo}{h:List eP}{b:Nat}{d r a l:O}{x:cE}{c:Prop}
def QK(hx:J g m)(aC:iX o m j f L)(hi:rL e b L)(P:dX g d r e h)(ha:ap g a x.args)(hk:mX g l x.bF)(hw:WS e (pc h) c b x)(t:b+4*x.w<=10^12){ab:Nat}{p:Bk}(aa:x.bF[ab]? =some p)(ih:QS e h c p):
 aN cq 285 [vp j 0,.agg #[O.v d,O.v r],oE x a l,vi ab] m (WG m b):=by
 apply xS (j,0)
 simp -zeta only[aE,aD,bE]
 intro I D
 let⟨x2,hl⟩:=dj (a:=I) (c:=D) rfl rfl
 clear_value D
 clear_value I
 have h2:=aC.ext x2
 have an:=hi.len
 have l0:=h2.len (k:=0) bh
 have n0:=an 0 bh
 have aY:=ax aa
 have aZ:=hk.len
 have aX:=uj aa
 have a2:=cE.lg x
 have Y:=hw.bF ab p aa
 have w:=hx.trans x2
 let⟨ae,ht,f0,f1⟩:=hk.aO aa
 refine⟨_,h2.cJ (k:=0) bh,?_⟩
 refine(Mh h2 (λu hj=>by
  by_cases A:u<6
  .rw[an u A];omega
  .have:u=6:=V;subst this;exact hi.df)).mono λv m3⟨C,z,H,K,aR,s,q,h3,y⟩=>⟨H.Vm hl (J.aF _)|>λ_=>λp t=>H.same p (hl p t),(C,0),z,?_⟩
 have R:rL e b s:=hi.same y
 have ai:Gt D [I.size,m.size] K m3:=⟨H,q,λp t=>⟨H.lt (hl p t),q p (hl p t)⟩⟩
 have hO:∀(M:E)(ac:Nat->Nat)(ah:Nat->O)(X:Nat->List Int)(F:Nat),Gt D [I.size,m.size] ac M->iX ac M C ah X->rL e F X->WB e (pc h) c F p->F<=b+3->b<=F->
  aN cq 290 [vp C 0,.agg #[O.v d,O.v r],.agg #[O.v ae,vi p.aR],vi ((f 0).len:Int)] M λv m'=>eG [I.size,m.size] M m'/\∃S:Bool,v=vb S/\WG m b (.tuple #[vp C 0,vb S]) m':=λM ac ah X F U aA am aF a1 aG=>by
  have e0:(f 0).len=b:=V
  rw[e0]
  refine(ih ac M D C ah X F b d r ae U.ext U.fR aA am aF V aG (P.le w.le) (ht.le w.le)).mono λv m'⟨S,G,z,c5,N⟩=>⟨U.da c5,S,z,C,S,rfl,x2.trans (U.to c5).ext,λaI=>?_⟩
  obtain⟨T,W,A,h7,_⟩:=N aI
  exact⟨G,T,W,λp t=>(U.to c5).fR p (x2.lt t),A,h7⟩
 refine⟨λB=>?_,λB=>?_⟩
 .simp only[aM]at B
  have aw:=P.bt.le w.le
  obtain⟨aW,_⟩:=hw.dU.all B
  refine(gQ (Pu K m3) (aw.le H.le) P.types x.bK).mono λv m4⟨s4,l4,z,aJ,e4,x4⟩=>⟨λp t=>x4.same p (ai.box p t).1,s4,z,?_⟩
  subst e4
  let⟨q,av⟩:=cg (bY e x.bK) ab
  have ay:=aJ.le (bz _ _)
  have l4:=ay.len
  refine⟨V,V,q,ay.aO av,?_⟩
  have ad:=ai.fW x4
  have h4:=h3.ext x4
  refine(dC (Pu K m4) (aw.le (Se ad.fR ad.ext)) P.types q).mono λv m5⟨s5,l5,z,az,e5,x5⟩=>⟨λp t=>x5.same p (ad.box p t).1,s5,z,?_⟩
  subst e5
  have aj:=ad.fW x5
  have N:=h4.ext x5
  have aU:=hw.dU.ln (Or.inr (Or.inr B))
  let⟨y,hy⟩:=cg x.args 0
  let⟨y0,y1⟩:=hw.dU.args y (aq hy)
  have aV:=ha.len
  have N5:=R.len
  have a3:=N.len (k:=3) bh
  have F:=N5 3 bh;have n4:=N5 4 bh
  have ag:∀{M:E},J D M->af M a.az (a.off+Int.toNat (0:Int)*1)=some (vi y):=λxx=>(ha.ext (w.trans xx)).aO hy
  let⟨w6,A,c6⟩:=N.put (k:=3) (i:=y.toNat) bh V q
  refine⟨_,N.cJ (k:=3) bh,V,V,y,ag aj.ext,y0,V,w6,?_⟩
  intro m6
  have ak:=aj.to c6
  let⟨w7,h7,c7⟩:=A.put (k:=4) (i:=y.toNat) bh (by show _<(s 4).length;omega) ((f 0).len:Int)
  have aK:=A.len (k:=4) bh
  have aB:up s 3 ((s 3).set y.toNat q) 4=s 4:=rfl
  rw[aB]at aK
  refine⟨aj.da c6,_,A.cJ (k:=4) bh,V,V,y,ag ak.ext,y0,V,w7,?_⟩
  intro m7
  have aT:=ak.to c7
  have F3:=EB P.types q
  have e0:((f 0).len:Int)=b:=V
  have i7:pF e b (b+(bZ e q).length) (up (up s 3 ((s 3).set y.toNat q)) 4 ((s 4).set y.toNat ((f 0).len:Int))):=by
   refine⟨λu hj=>?_,λv aO hp=>R.W7 v aO (by simpa[up]using hp),λv c ar hc hf h1=>?_,by simpa[up]using R.df⟩
   .rcases u with _|_|_|_|_|_|u<;>first|omega|(simp[up,N5])
   .have Q:((s 3).set y.toNat q)[v]? =some c:=by simpa[up]using hc
    have Z:((s 4).set y.toNat ((f 0).len:Int))[v]? =some ar:=by simpa[up]using hf
    by_cases ev:y.toNat=v
    .subst ev;rw[dQ V]at Q Z;simp at Q Z;subst Q;omega
    .rw[dT ev]at Q Z;have:=R.OB v c ar Q Z h1;omega
  have a0:=az.len
  refine⟨ak.da c7,?_⟩
  refine dZ (n:=(bZ e q).length) V (λu M=>∃G T W,pF e (b+u) (b+(bZ e q).length) W/\To K m5 G M/\Gt D [I.size,m.size] G M/\iX G M C T W) ⟨K,_,_,i7,c6.trans c7,aT,h7⟩ ?_
  rintro u M am μ hj ⟨aQ,aS,L8,Z,c8,C,au⟩ aL
  refine dit (λaH=>?_) λaH=>?_
  .let⟨al,hz⟩:=cg (bZ e q) u
   refine⟨V,V,al,(az.le (c8.ZU h4.new)).aO hz,V,V,y,ag C.ext,?_⟩
   exact(zG au (λaP Q=>by rw[Z.len aP Q];omega) al 0 y).mono λv M'⟨G,T,Q,h9⟩=>⟨C.da Q,aL V _ ⟨G,T,_,by rw[<-dR];exact Z.NQ al 0 V,c8.trans Q,C.to Q,h9⟩⟩
  .have Q:u=(bZ e q).length:=V
   subst Q
   rw[JU B av]at Y
   exact⟨V,V,ae,(w.trans C.ext).af f0,p.aR,(w.trans C.ext).af f1,hO M aQ aS L8 _ C au Z Y V V⟩
 .simp only[ao]at B
  rw[JV B]at Y
  exact⟨V,V,ae,(w.trans H).af f0,p.aR,(w.trans H).af f1,hO m3 K aR s b ai h3 R Y V V⟩
end
end
section
def _root_.Go.Vc.VX{n b:Nat}(g:b<=n)(o:n<=9223372036854775807){m:E}{e:(Int->E->Prop)->(Int->E->Nat)->Int->E->Prop}(Q:Nat->E->Prop)(f:Q b m)
 (h:∀(k:Nat)(a:E)(I:Int->E->Prop)(μ:Int->E->Nat),b<=k->k<=n->Q k a->
  (k<n->∀c,Q (k+1) c->I (cQ ((k:Int)+1)) c/\μ (cQ ((k:Int)+1)) c<μ k a)->e I μ k a):
 ∃(I:Int->E->Prop)(μ:Int->E->Nat),I b m/\∀i a,I i a->e I μ i a:=by
 refine⟨λi c=>∃k:Nat,i=k/\b<=k/\k<=n/\Q k c,λi _=>(n -i).toNat,⟨b,rfl,ad _,g,f⟩,?_⟩
 rintro i a ⟨k,rfl,j,l,p⟩
 refine h k a _ _ j l p λd c q=>?_
 rw[km d o]
 exact⟨⟨k+1,rfl,V,d,q⟩,Cu d⟩
section
variable{b:Nat->Nat}{m f:E}{e:Nat}{o:Nat->O}{L:Nat->List Int}{g:List bo}{l:List eP}{h:Nat}{d r i j:O}{x:cE}{c:Prop}
def Mf(hx:J f m)(fR:∀p,p<f.size->b p=0)(t:iX b m e o L)(hi:rL g h L)(hN:dX f d r g l)(ha:ap f i x.args)(hk:mX f j x.bF)(P:WS g (pc l) c h x)(q:h+4*x.w<=10^12)(au:x.op=7\/x.op=8)(ih:∀p∈x.bF,QS g l c p):
 aN cq 270 [vp e 0,.agg #[O.v d,O.v r],oE x i j] m (AX b m e (rL g h)):=by
 apply ux (e,0)
 simp -zeta only[aE,aD,bE]
 intro X I
 have st:=Gt.S0 (a:=X) (g:=I) hx fR t.new rfl rfl
 let⟨Q,D⟩:=dj (a:=X) (c:=I) rfl rfl
 clear_value I
 clear_value X
 have am:=hk.len
 have aG:=ha.len
 have aC:=P.dU.ln V
 have ao:0<x.bF.length:=by
  rcases au with U|h8
  .have:=P.dU.Jw U;omega
  .exact(P.dU.all h8).2
 have N:∀{M:E},J I M->To b m b M:=λz=>dL.fK _ (Q.trans z) t.new
 have ag:∀(M:E)(H:Nat)(p:Bk),J I M->x.bF[H]? =some p->aN cq 285 [vp e 0,.agg #[O.v d,O.v r],oE x i j,vi H] M (WG M h):=λM H p z ah=>
  QK (hx.trans (Q.trans z)) (t.ext (Q.trans z)) hi hN ha hk P q ah (ih p (aq ah))
 refine⟨λM=>J I M,⟨λ_=>?_,λ_=>J.aF _⟩,?_⟩
 .let⟨y,u⟩:=cg x.args 0
  let⟨w,A⟩:=P.dU.args y (aq u)
  refine⟨bh,V,y,(ha.ext st.ext).aO u,?_⟩
  exact(rR (t.ext Q) hi V w A).mono λZ Y⟨p,s,v⟩=>⟨λp q=>v.same p (D p q),p,s,λ_=>.no (N v),λ_=>v⟩
 .intro Y v
  let⟨b0,al⟩:=dI ao
  refine(ag Y 0 b0 v al).mono λZ m4⟨ac,az,s,R,h1⟩=>⟨λp q=>R.same p (v.lt (D p q)),(ac,0),az,s,λ_=>.no (N (v.trans R)),λab=>?_⟩
  let⟨aA,ad,L1,ai,h1,n1⟩:=h1 (by simpa using ab)
  have av:=n1 1 bh;have aw:=n1 5 bh
  refine VX (n:=x.bF.length) (b:=1) V (am▸hk.fu) (λ_ M=>J m4 M) (J.aF _) ?_
  rintro H M aB μ aF aH S ax
  have y:=(v.trans R).trans S
  have A:=h1.ext S
  refine⟨λW=>?_,λW=>?_⟩
  .simp only[an]at W
   let⟨p,q⟩:=cg x.bF H
   refine(ag M H p y q).mono λZ m6⟨aa,aj,s,u,C⟩=>⟨λp q=>u.same p (y.lt (D p q)),(aa,0),aj,s,λ_=>.no (N (y.trans u)),λab=>?_⟩
   let⟨aM,aO,L2,aL,C,n2⟩:=C (by simpa using ab)
   have ar:=n2 1 bh;have aI:=n2 5 bh
   have B:=A.ext u
   refine⟨_,B.cJ (k:=1) bh,_,C.cJ (k:=1) bh,?_⟩
   refine(p7 (B.pA (k:=1) bh V) (C.pA (k:=1) bh V)).mono λZ m7⟨F,s,_,w⟩=>⟨λp q=>w.same p (u.lt (y.lt (D p q))),F,s,λ_=>.no (N (y.trans (u.trans w))),λ_=>?_⟩
   have T:=B.ext w
   have U:=C.ext w
   refine⟨_,T.cJ (k:=5) bh,_,U.cJ (k:=5) bh,?_⟩
   refine(p7 (T.pA (k:=5) bh V) (U.pA (k:=5) bh V)).mono λZ m8⟨F,s,_,K⟩=>⟨λp q=>K.same p (w.lt (u.lt (y.lt (D p q)))),F,s,λ_=>.no (N (y.trans (u.trans (w.trans K)))),λ_=>?_⟩
   exact ax V _ (S.trans (u.trans (w.trans K)))
  .let w:Nat->Nat:=λp=>if p<Y.size then b p else aA p
   have uu:=Q.trans v
   have z:=uu.trans (R.trans S)
   have z4:=R.size;have zM:=S.size;have T:=uu.size
   have K:∀p,p<Y.size->w p=b p:=λp q=>ak q
   have H0:iX w M e o L:=by
    refine⟨λp q=>?_,by rw[K _ (aJ t.box.lt T)];exact t.jx,(t.ext z).box,λu F=>(t.sq u F).fS (λB=>z.same _ ((t.sq u F).az B).1) λB=>K _ (aJ ((t.sq u F).az B).1 T)⟩;simp only[w];rw[ae V];exact A.new p q
   have aa:∀u,u<7->iI w M ay 1 (u+1) (ad u) ((L1 u).map Ce.i):=λu F=>(A.sq u F).fS (λ_=>rfl) λB=>by
    have C:=((A.sq u F).az B).2;simp only[w];rw[ae λW=>by rw[ai _ W]at C;omega]
   have c3:To b m w M:=⟨z.size,λp q=>K p (aJ q T),H0.new,λp q _=>z.same p q⟩
   have aj:Gt f [X.size,m.size] w M:=⟨st.ext.trans y,λp q=>by rw[K p (aJ (aJ q hx.size) T)];exact fR p q,λp q=>⟨y.lt (D p q),by rw[K p (v.lt (D p q))];exact(st.box p q).2⟩⟩
   clear_value w
   refine⟨_,A.cJ (k:=1) bh,?_⟩
   let⟨w5,h5,c5⟩:=H0.Xc (k:=1) bh (aa 1 bh)
   refine⟨w5,?_⟩
   intro m9
   have ar:ac≠e:=λs=>by
    have h8:=A.jx;rw[s,ai _ (aJ t.box.lt T)]at h8;omega
   have G:af m9 ac 5=some (O.v (ad 5)):=(aK (bd _ _ _ _ ar) _).trans (A.cJ (k:=5) bh)
   have A5:iI w m9 ay 1 (5+1) (ad 5) ((L1 5).map Ce.i):=by
    refine(aa 5 bh).fS (λB=>bd _ _ _ _ λs=>?_) λ_=>rfl;have:=((aa 5 bh).az B).2;rw[s,H0.jx]at this;omega
   let⟨w6,h6,c6⟩:=h5.Xc (k:=5) bh A5
   exact⟨aj.da c5,_,G,w6,(aj.to c5).da c6,.OD ((c3.trans c5).trans c6) h6 ((hi.ba av).tok aw)⟩
end
end
section
section
variable{b:Nat->Nat}{m g:E}{f:Nat}{l:Nat->O}{L:Nat->List Int}{e:List bo}{h:List eP}{n:Nat}{d r a j:O}{x:cE}{c:Prop}
def FH(hx:J g m)(fR:∀o,o<g.size->b o=0)(aa:iX b m f l L)(w:rL e n L)(U:dX g d r e h)(D:ap g a x.args)(hk:mX g j x.bF)(F:WS e (pc h) c n x)(u:n+4*x.w<=10^12)(ih:∀o∈x.bF,QS e h c o):
 aN cq 255 [vp f 0,.agg #[O.v d,O.v r],oE x a j] m (AX b m f (rL e (n+dn x))):=by
 apply wA (f,0)
 simp -zeta only[aE,aD,bE]
 intro R X
 have S:=Gt.S0 (a:=R) (g:=X) hx fR aa.new rfl rfl
 have x2:J m X:=(dj (a:=R) (c:=X) rfl rfl).1
 clear_value X
 clear_value R
 have h2:=aa.ext x2
 have ao:=D.len
 have ar:=cE.lg x
 have N0:=w.len 0 bh
 refine⟨_,h2.cJ (k:=0) bh,?_⟩
 refine(nB (U.le S.ext.le) (h2.pA (k:=0) bh V) (D.ext S.ext) (hk.le S.ext.le) V (λo _=>mJ o)).mono λA m3⟨G,t,_,x3⟩=>⟨λo u=>x3.same o (S.box o u).1,G,t,?_⟩
 have s:=S.fW x3
 have C:=h2.ext x3
 have P:To b m b m3:=dL.fK _ (x2.trans x3) aa.new
 have ln:14<=x.op\/x.op=7\/x.op=8->∃y:Int,x.args[0]? =some y/\0<=y/\y<(n:Int):=λho=>by
  have:=F.dU.ln ho;let⟨y,K⟩:=cg x.args 0;exact⟨y,K,F.dU.args y (aq K)⟩
 refine⟨λok M=>∃v,To b m v M/\Gt g [R.size,m.size] v M/\(ok=true->∃Z N,iX v M f Z N/\rL e n N),⟨λai=>?_,λau=>⟨λaj=>?_,λav=>⟨λal=>?_,λaw=>⟨λh7=>?_,λn7=>?_⟩⟩⟩⟩,?_⟩
 .simp only[aM]at ai
  let⟨y,K,B,W⟩:=ln V
  have ac:=F.dU.ln V
  have Y:∀{M:E},J g M->af M a.az (a.off+Int.toNat (0:Int)*1)=some (vi y):=λT=>(D.ext T).aO K
  refine⟨bh,V,y,Y s.ext,?_⟩
  refine(rR C w V B W).mono λA H⟨o,t,q⟩=>⟨λo u=>q.same o (s.box o u).1,o,t,?_⟩
  have p:=C.ext q
  have z:=s.fW q
  have N1:=w.len 1 bh
  have l1:=p.len (k:=1) bh
  let⟨ab,ad⟩:=cg (L 1) y.toNat
  let⟨wr,Q,I⟩:=p.put (k:=1) (i:=y.toNat) bh V (cQ (ab+1))
  exact⟨_,p.cJ (k:=1) bh,bh,V,y,Y z.ext,_,p.cJ (k:=1) bh,bh,V,y,Y z.ext,B,V,ab,p.aO bh V ad,B,V,wr,z.da I,b,(P.trans (dL.fK _ q C.new)).trans I,z.to I,λ_=>⟨l,_,Q,w.ba (by simp[N1])⟩⟩
 .simp only[aM]at aj
  let⟨y,K,B,W⟩:=ln V
  have ac:=F.dU.ln V
  refine⟨bh,V,y,(D.ext s.ext).aO K,?_⟩
  refine(ua C w V B W).mono λA H⟨o,v,t,q,p⟩=>⟨s.da q,o,t,v,P.trans q,s.to q,λu=>?_⟩
  obtain⟨Z,N,Q,ab,Y,rfl⟩:=p u
  exact⟨Z,_,Q,w.ba Y⟩
 .simp only[cB,aM]at al
  refine(PB s.ext s.fR C w V U D F.dU V).mono λA H⟨o,v,t,q,p⟩=>⟨s.da q,o,t,v,P.trans q,s.to q,p⟩
 .simp only[cB,aM]at h7
  refine(Mf s.ext s.fR C w U D hk F u h7 ih).mono λA H⟨o,v,t,q,p⟩=>⟨s.da q,o,t,v,P.trans q,s.to q,p⟩
 .refine(I7 s.ext s.fR C w V U D F.dU).mono λA H⟨o,v,t,q,p⟩=>⟨s.da q,o,t,v,P.trans q,s.to q,p⟩
 .rintro ok M ⟨ax,q,z,p⟩
  refine⟨λ_=>.no q,λan=>?_⟩
  let⟨ay,L4,p,i4⟩:=p (by simpa using an)
  have gr:∀{M':E}(G Y:Int),J M M'->dn x=1->aN cq 267 [vp f 0,vi G,vi Y,vi (-1:Int)] M' λ_ m'=>eG [R.size,m.size] M' m'/\AX b m f (rL e (n+dn x)) (vb true) m':=λG Y T hd=>
   (zG (p.ext T) (λH B=>by rw[i4.len H B];omega) G Y (-1)).mono λ_ m'⟨v,Z,I,Q⟩=>⟨(z.fW T).da I,.OD ((q.trans (dL.fK _ T p.new)).trans I) Q (by rw[hd];exact(i4.NQ G Y V).CG V)⟩
  refine(jy x.op M).mono λA m5⟨o,t,ab,B⟩=>⟨λo u=>B.same o (z.box o u).1,o,t,λag=>⟨λ_=>gr G 1 B (by have:=sC x o ab;rw[ak ag]at this;exact this),λ_=>?_⟩,λam=>?_⟩
  .refine(jy x.op m5).mono λA m6⟨N,t,W,H⟩=>⟨λo u=>H.same o (B.lt (z.box o u).1),N,t,λad=>gr 0 0 (B.trans H) (by have:=sC x N W;rw[ak ad]at this;exact this),λac=>?_⟩
   have:=W.2 (ab.1 ag);rw[this]at ac;simp at ac
  .have ah:=sC x o ab
   rw[ae (by simp[am])]at ah
   exact(jy x.op m5).mono λA m6⟨N,t,W,H⟩=>⟨λo u=>H.same o (B.lt (z.box o u).1),N,t,λad=>gr 0 0 (B.trans H) (by have:=sC x N W;rw[ak ad]at this;exact this),λac=>.OD (q.trans (dL.fK _ (B.trans H) p.new)) (p.ext (B.trans H)) (by rw[ah];exact i4)⟩
end
def Ml{B:List bo}{rs:List eP}{H:Prop}:∀b:Bk,QS B rs H b:=by
 refine Bk.ind ?_;intro aC ac ih r p mb E sl L aa D af am ap Y fR t Q W o hk O x;simp only[Bk.jG,Bk.iZ,Bk.qd]at*;apply vv (E,0);simp -zeta only[aE,aD,bE];intro q m;have st:=Gt.S0 (a:=q) (g:=m) Y fR t.new rfl rfl;have F:J p m:=(dj (a:=q) (c:=m) rfl rfl).1;have I:To r p r m:=dL.fK _ F t.new;clear_value m;clear_value q;let⟨C,y,r1⟩:=W.bB;simp only[Bk.jG,Bk.iZ]at C y r1;have U:=x.len;have T:=Au aC;refine dZ (n:=aC.length) (U▸x.fu) (λi M=>∃g s h,rL B (aa+dc (aC.take i)) h/\To r p g M/\Gt mb [q.size,p.size] g M/\iX g M E s h) ⟨r,sl,L,by simpa using Q,I,st,t.ext F⟩ ?_;rintro i M ad μ ah ⟨an,ao,G,f,j,c,d⟩ ab
 have ag:=pM (aC.take i);have ai:=qe i aC;have aj:=fw (aC.take i);refine dit (λS=>?_) λS=>?_
 .let⟨w,l⟩:=cg aC i;let⟨ae,kk,P,R,z,g1,g2,K,N⟩:=x.aO l;have al:=pt l;have ak:=T (i+1);have X:=c.ext;refine⟨V,V,_,X.af z,_,X.af g1,_,X.af g2,_,X.af K,_,X.af N,?_⟩;refine(FH X c.fR d f O P R (C i w l) V (ih w (aq l))).mono λA m4⟨b,g,e,a,u⟩=>⟨c.da a,b,e,λ_=>.no (j.trans a),λo=>?_⟩;let⟨s,h,v,Z⟩:=u (by simpa using o);exact ab V _ ⟨g,s,h,by rw[(ql l),<-dR];exact Z,j.trans a,c.to a,v⟩
 .have K:i=aC.length:=V;rw[K,gX]at f;have ae:=pM aC;have ak:=fw aC;have Z:=f.len 0 bh;have l0:=d.len (k:=0) bh;let⟨X,P⟩:=cg (G 0) ac.toNat;refine⟨_,d.cJ (k:=0) bh,y,V,X,d.aO bh V P,λ_=>?_,λ_=>?_⟩
  .refine(ua d f V y V).mono λA m4⟨b,g,e,a,u⟩=>⟨c.da a,b,e,λ_=>.no (j.trans a),λo=>?_⟩;obtain⟨s,h,v,al,N,rfl⟩:=u (by simpa using o);refine(KW v (f.ba N) V (b:=D) V).mono λA R⟨b,z,e,l,w⟩=>⟨(c.to a).da l,b,e,b,z,rfl,(j.trans a).trans l,w⟩
  .refine(KW d f V (b:=D) V).mono λA R⟨b,z,e,l,w⟩=>⟨c.da l,b,e,b,z,rfl,j.trans l,w⟩
def XB(m:E)(f:List bo)(q:eP)(j:Int)(v:Value)(c:E):Prop:=∃(a:Nat)(d:Bool),v=.tuple #[vp a 0,vb d]/\J m c/\(d=true->0<=j/\j<=q.body.aC.length/\∃e g L,(∀b,b<m.size->e b=0)/\iX e c a g L/\rL f (q.params.length+dc (q.body.aC.take j.toNat)) L)
def DC{m:E}{I T:O}{f:List bo}{z:List eP}{ab:Prop}{W:Nat}(h:dX m I T f z)(P:uI f z ab W)(hW:W<=200000000000){K:Nat}{a:eP}(w:z[K]? =some a){j:Int}(hj: -9000000000000000000<=j/\j<=9000000000000000000):
 aN cq 227 [.agg #[O.v I,O.v T],vi K,vi j] m (XB m f a j):=by
 apply wu
 simp -zeta only[aE,aD]
 intro k
 have D:J m k:=J.push _ _
 have g:∀b∈[m.size],b<k.size:=by simp[k]
 clear_value k
 have aI:=h.iD.len;have aG:=h.nA
 have aC:=ax w
 let⟨ah,af,ak,hw⟩:=P.de a (aq w)
 let⟨aM,aO,b,c1,c2,H,e0,e1,e2,v,e4⟩:=h.iD.aO w
 have x:∀{M:E}{an:Obj},J m M->XB m f a j (.tuple #[vp M.size 0,vb false]) (M.push an):=λxx=>⟨_,false,rfl,xx.aP _,aH⟩
 refine(DV (h.le D.le) (λd c=>oh (P.de d c))).aI (J.aF k) g λv1 m2 F _=>⟨_,rfl,λ_=>x (D.trans F),λ_=>?_⟩
 have Y:=D.trans F
 refine(aY _ _ _ _).aI F g λv2 m3 _ Z v3=>⟨_,rfl,λ_=>x (Y.trans Z),λ_=>?_⟩
 have B:=Y.trans Z
 have az:=H.len
 refine⟨V,V,_,B.af v,?_⟩
 refine(aY _ _ _ _).aI v3 g λv4 R ac x4 C=>⟨_,rfl,λ_=>x (B.trans x4),λaj=>?_⟩
 have c:=B.trans x4
 have hr:=ac.1 (by simpa using aj)
 refine⟨V,V,_,c.af e0,_,c.af e1,_,c.af e2,_,c.af v,_,c.af e4,?_⟩
 refine(HD (q:=a) (c1.ext c) (c2.ext c) ah af f).mono λau S⟨t,u,G,y,sl,aa,fR,L,i5⟩=>⟨λb d=>G.same b (C.lt (g b d)),(t,0),u,?_⟩
 obtain⟨al,_,_⟩:=ak.bB
 have aA:=Bk.lg a.body
 have ai:=Au a.body.aC
 have ar:Gt R [m.size] y S:=⟨G,fR,λb d=>⟨G.lt (C.lt (g b d)),fR b (C.lt (g b d))⟩⟩
 have e6:j=((j.toNat:Nat):Int):=V
 obtain⟨s,ad⟩:∃s:Nat,j=s:=⟨j.toNat,e6⟩
 subst ad
 simp only[ov]
 refine dZ (n:=s) V (λi M=>∃l A o,rL f (a.params.length+dc (a.body.aC.take i)) o/\To y S l M/\Gt R [m.size] l M/\iX l M t A o) ⟨y,sl,aa,by simpa using i5,L.to,ar,L⟩ ?_
 rintro i M aw μ aF ⟨ao,ap,L6,Q,c6,e,N⟩ am
 have U:J m M:=c.trans e.ext
 refine dit (λag=>?_) λag=>?_
 .let⟨av,r⟩:=cg a.body.aC i
  let⟨ay,kk,ha,ae,g0,g1,g2,g3,g4⟩:=(H.le c.le).aO r
  have X:=e.ext
  have aL:=pt r
  have aK:=ai (i+1)
  have aB:=pM (a.body.aC.take i)
  have aJ:=fw (a.body.aC.take i)
  refine⟨V,V,_,U.af v,V,V,_,X.af g0,_,X.af g1,_,X.af g2,_,X.af g3,_,X.af g4,?_⟩
  refine(FH X e.fR N Q (h.le c.le) ha ae (al i av r) V (λb _=>Ml b)).mono λau m7⟨b,l,u,p,h7⟩=>⟨e.da p,b,u,λ_=>⟨t,false,rfl,c.trans (e.to p).ext,aH⟩,λd=>?_⟩
  let⟨A,o,h8,i8⟩:=h7 (by simpa using d)
  exact am V _ ⟨l,A,o,by rw[ql r,<-dR];exact i8,c6.trans p,e.to p,h8⟩
 .have l:i=s:=V
  subst l
  exact⟨t,true,rfl,U,λ_=>⟨V,V,ao,ap,L6,λb d=>e.fR b (c.lt d),N,by simpa using Q⟩⟩
end
section
variable{f d:Int}{c P:Nat}{m:E}
def Rz(a:0<=f)(b:0<d):0<=f.tmod d/\f.tmod d<d:=⟨Int.tmod_nonneg _ a,Int.tmod_lt_of_pos _ b⟩
def Nl(a:0<=f)(b:0<d):0<=f.tdiv d/\f.tdiv d<=f:=by
 rw[pw a];exact⟨Int.ediv_nonneg a V,Int.ediv_le_self _ a⟩
def Vy{b:Int}(e:0<=f/\f<4611686018427387904)(g:0<=b/\b<4611686018427387904):0<=Vx f b:=by
 unfold Vx;have a:(f%18446744073709551616).toNat<2^62:=V;have c:(b%18446744073709551616).toNat<2^62:=V;have d:=Nat.xor_lt_two_pow a c;rw[aQ V V];omega
def Rd(c:Nat)(a:O)(P:Nat)(m:E):Prop:=(∃p:Int,cz m c pv [.s a,.i p]/\0<=p/\p<=P)/\a.len<=a.cap/\∀k:Nat,k<a.len->∃v:Int,0<=v/\v<=255/\af (bG [c] m) a.az (a.off+k*1)=some (.int .u8 v)
def Rd.mono{Q:Nat}{a:O}(h:Rd c a P m)(g:P<=Q):Rd c a Q m:=let⟨⟨p,b,d,f⟩,e⟩:=h;⟨⟨p,b,d,V⟩,e⟩
def Rd.lt{c P:Nat}{a:O}{m:E}(h:Rd c a P m):c<m.size:=let⟨⟨_,b,_⟩,_⟩:=h;b.lt
def Rd.LZ{f:Nat}{b:O}{e M a:E}(d:Rd c b f e)(h:Rd c b P M)(l:Fz [c] e a)(k:a[c]? =M[c]?):Rd c b P a:=by
 obtain⟨⟨p,g,i,j⟩,_⟩:=h;exact⟨⟨p,g.congr k,i,j⟩,d.2.1,λo m=>let⟨v,q,r,n⟩:=d.2.2 o m;⟨v,q,r,l.cR (λ_ h=>h) _ _ _ n⟩⟩
def Rd.ext{a:O}{d:E}(h:Rd c a P m)(b:J m d):Rd c a P d:=h.LZ h (b.fz _) (b.same _ h.lt)
def Rd.ai{c g P:Nat}{a:O}{d M:E}(f:Rd c a g d)(h:Rd c a P M)(j:Fz [c] d M){b:Nat}(i:d.size<=b)(o:Nat)(l:List Ce):Rd c a P (ai M b o l):=
 f.LZ h (j.ai (Or.inr i) o l) (bd _ _ _ _ λe=>oh f.lt)
def XO(c:Nat)(b:O)(P:Nat)(m:E)(d:Int)(v:Value)(a:E):Prop:=∃k:Int,v=vi k/\0<=k/\(k<d\/k=0)/\Rd c b (P+1) a/\Fz [c] m a
def bV{e:O}(s:Rd c e P m)(hP:P<=10^16)(d:Int):aN cq 20 [vp c 0,vi d] m (XO c e P m d):=by
 let⟨⟨p,t,q,p1⟩,X,E⟩:=s;apply wE (c,0);simp -zeta only[bE];have g1:af m c 1=some (vi p):=t.cJ 1;refine⟨p,g1,t.fg aH,?_⟩;intro g;have U:cQ (p+1)=p+1:=aQ V V;have T:cQ (p+1 -1)=p:=by rw[show p+1 -1=p by omega];exact aQ V V
 have w:cz g c pv [.s e,.i (p+1)]:=by rw[<-U];exact cz.ai (m:=m) (r:=[.i (cQ (p+1))]) (o:=1) t
 have A:Fz [c] m g:=(Fz.aF [c] m).ai (Or.inl aH) _ _;have F:Le (bG [c] m) (bG [c] g):=A.cR λ_ s=>s;clear_value g;have R:∀k:Int,0<=k->(k<d\/k=0)->XO c e P m d (vi k) g:=λk C D=>⟨k,rfl,C,D,⟨⟨p+1,w,V,V⟩,X,λj f=>let⟨v,i,l,h⟩:=E j f;⟨v,i,l,F _ _ _ h⟩⟩,A⟩;have f:af g c 0=some (O.v e):=w.cJ 0;have g1:af g c 1=some (vi (p+1)):=w.cJ 1;have B:∀j:Int,0<=j->j<(e.len:Int)->∃v:Int,0<=v/\v<=255/\af g e.az (e.off+j.toNat*1)=some (.int .u8 v):=λj C D=>by
  let⟨v,i,l,h⟩:=E j.toNat V;exact⟨v,i,l,(dY.1 (F _ _ _ h)).2⟩
 refine⟨λ_=>R 0 (dh _) (Or.inr rfl),λZ=>⟨_,f,λ_=>R 0 (dh _) (Or.inr rfl),λY=>?_⟩⟩;simp only[br]at Z;simp only[ao]at Y;have G:0<d:=V;refine⟨_,g1,_,f,?_⟩;rw[T];refine⟨λz=>?_,λ_=>?_⟩
 .simp only[an]at z;let⟨v,i,l,h⟩:=B p q z;refine⟨_,f,q,z,v,h,V,?_⟩;rw[aQ V V];have:=Rz i G;exact R _ this.1 (Or.inl this.2)
 .have y:(0:Int)<(e.len:Int):=V;let⟨I,J⟩:=Rz q y;let⟨v,i,l,h⟩:=B _ I J;have S:cQ (cQ (p*7)+3)=p*7+3:=by rw[aQ (b:=p*7) V V,aQ V V]
  let⟨K,L⟩:=Rz (f:=p*7+3) V y;let⟨u,u0,u1,hu⟩:=B _ K L;let⟨d0,d1⟩:=Nl q y;rw[S];refine⟨_,f,_,f,V,I,J,v,h,_,f,_,f,V,K,L,u,hu,_,f,V,bh,V,?_⟩;have M:cQ (cQ v*131)=v*131:=by rw[aQ (b:=v) V V,aQ V V]
  have N:cQ (cQ u*1117)=u*1117:=by rw[aQ (b:=u) V V,aQ V V]
  have E3:cQ (p*29)=p*29:=aQ V V;have Q:cQ (cQ (p.tdiv e.len)*53)=p.tdiv e.len*53:=by rw[aQ (b:=p.tdiv e.len) V V,aQ V V]
  rw[M,N,E3,Q,aQ (b:=v*131+u*1117) V V,aQ (b:=v*131+u*1117+p*29) V V,aQ (b:=v*131+u*1117+p*29+p.tdiv e.len*53) V V];have H:0<=v*131+u*1117+p*29+p.tdiv e.len*53:=V;let⟨q0,q1⟩:=Nl (d:=64) H bh;rw[aQ (b:=Int.tdiv _ 64) V V];have W:=Vy (f:=v*131+u*1117+p*29+p.tdiv e.len*53) (b:=(v*131+u*1117+p*29+p.tdiv e.len*53).tdiv 64) ⟨H,V⟩ ⟨q0,V⟩;let⟨z0,z1⟩:=Rz W G;exact R _ z0 (Or.inl z1)
def jR{a:O}(h:Rd c a P m)(j:P<=10^16){s:O}{l:List Int}(d:ap (bG [c] m) s l)(o:0<l.length):
 aN cq 74 [vp c 0,O.v s] m λv f=>∃k:Int,v=vi k/\k∈l/\Rd c a (P+1) f/\Fz [c] m f:=by
 apply xW (c,0)
 have p:=d.len
 refine(bV h j (s.len:Int)).mono λv r⟨k,g,n,q,i,b⟩=>⟨k,g,n,V,?_⟩
 let⟨x,e⟩:=cg l k.toNat
 exact⟨x,(dY.1 ((b.cR (λ_ h=>h)) _ _ _ (d.aO e))).2,x,rfl,aq e,i,b⟩
end
section
variable{d:List Nat}{c:E}
def _root_.Go.Vc.Gr.set{α:Type}{d X:List Nat}{t c:E}{z f:Nat}{R:E->List Ce->α->Prop}{s:O}{y:List α}(w:nH f R)(h:Gr d t c z f R s y)(hf:Fz X t c){k:Nat}(I:k<y.length){cs:List Ce}{a:α}(F:R (bG (s.az::d) c) cs a):
 fg c s.az (s.off+k*f) f/\Gr d t (ai c s.az (s.off+k*f) cs) z f R s (y.set k a)/\Fz X t (ai c s.az (s.off+k*f) cs)/\(∀g,g≠s.az->(ai c s.az (s.off+k*f) cs)[g]? =c[g]?):=by
 have hy:=h.bg
 let⟨C,e,D,j⟩:=h
 have ab:∀g,g≠s.az->(ai c s.az (s.off+k*f) cs)[g]? =c[g]? :=λg Z=>bd _ _ _ _ Z
 let⟨g,i,tail,u,Q,A,S,T⟩:=D.aO.resolve_left C
 have H:=w.len F
 let⟨l,x⟩:=cg e k (by rw[j.len];exact I)
 have af:=j.size l (aq x)
 have M:s.off+k*f=k*f:=by rw[u];simp
 have G:s.az=g:=by rw[u];rfl
 have J:=ax x
 have N:e=e.take k++l::e.drop (k+1):=by
  have v:=List.getElem?_eq_some_iff.1 x;let⟨W,Y⟩:=v;rw[<-Y,<-lC W,dw]
 have ad:(e.take k).flatten.length=k*f:=by rw[dp λi n=>j.size i (cX n),eJ,jt V]
 have ac:e.set k cs=e.take k++cs::e.drop (k+1):=by
  rw[OE,ak J]
 have aa:iO (e.flatten++tail) (k*f) cs=(e.set k cs).flatten++tail:=by
  have U:e.flatten++tail=(e.take k).flatten++(l++((e.drop (k+1)).flatten++tail)):=by
   conv=>lhs;rw[N]
   simp
  rw[U,<-ad,AQ _ _ _ bN,ac];rw[show cs.length=l.length by omega,List.drop_left];simp
 have L:(e.set k cs).flatten.length=e.flatten.length:=by
  rw[dp (b:=f) λi n=>?_,dp j.size,iH];rcases cL n with h|h
  .exact j.size i h
  .rw[h];exact H
 have K:Le (bG (s.az::d) c) (bG (s.az::d) (ai c s.az (s.off+k*f) cs)):=cb aH λ_ h=>h
 refine⟨?_,⟨C,e.set k cs,⟨by rw[L];exact D.len,Or.inr ⟨g,i,tail,u,Q,?_,?_,T⟩⟩,⟨by simp[j.len],λi n=>?_,λP i ae p q=>?_⟩⟩,hf.ai (Or.inr hy.1) _ _,ab⟩
 .rw[M,G]
  refine A.fg ?_
  have:(e.take k).flatten.length+l.length<=e.flatten.length:=by
   conv=>rhs;rw[N]
   simp
  simp only[aT];omega
 .have v:=cz.ai (m:=c) (b:=g) (r:=cs) (o:=k*f) A
  rw[M,G,<-aa];exact v
 .rw[<-S,aT,aT,L]
 .rcases cL n with h|h
  .exact j.size i h
  .rw[h];exact H
 .by_cases B:k=P
  .subst B
   rw[dQ J]at p
   rw[dQ I]at q
   simp at p q;subst p q
   exact w.le K F
  .rw[dT B]at p q
   exact w.le K (j.de P i ae p q)
def zZ(hS:∀a∈d,a<c.size){g C L:O}{S:Int}{aC:List cE}{q:cE}{f:Nat}(s:eH (bG d c) g aC)(ha:ap (bG d c) C q.args)(hk:mX (bG d c) L q.bF)(hj:f<=aC.length)(hb:aC.length<=900000000000):
 aN cq 229 [.agg #[O.v g,vi S],vi f,oE q C L] c λai N=>∃W,ai=.agg #[O.v W,vi S]/\eH (bG d N) W (aC.take f++[q]++aC.drop f)/\J c N:=by
 apply DK
 simp -zeta only[aE,aD]
 intro P h e k
 let⟨r,m,s1,s2,s3⟩:=pK (a:=P) (b:=h) (c:=e) rfl rfl rfl
 have z:J e k:=J.push _ _
 have s4:k.size=e.size+1:=by simp[k]
 have g0:GS (h.size::d) e k (.mk e.size 0 0 0) []:=GS.new _ _
 clear_value k
 clear_value e
 have u4:=r.trans z
 have K:=s.len
 have ak:=s.cap
 have I:∀a∈[h.size,P.size,c.size],a<k.size:=λa b=>z.lt (m a b)
 have H:∀{M:E}{D:Nat},J c M->c.size<=D->Le (bG d c) (bG (D::h.size::d) M):=λxx aj=>xx.bG λa b=>by
  simp only[aV]at b;rcases b with l|l|l
  .exact Or.inr V
  .exact Or.inr V
  .exact Or.inl l
 have X:Int.toNat (0:Int)=0:=rfl
 have Y:Int.toNat (f:Int)=f:=V
 have Z:Int.toNat (g.len:Int)=g.len:=V
 rw[X,Y,Z]
 refine⟨V,V,V,?_⟩
 have ac:eH (bG (e.size::h.size::d) k) (g.cut 0 f 5) (aC.take f):=by simpa using(s.le (H (D:=e.size) u4 V)).J4 (i:=0) (dE _) hj
 refine GS.all g0 (z.fz []) ac bN λT y g1 F z1 q1=>⟨λa b=>q1 a (I a b) (by have:=m a b;simp;omega),V,V,V,?_⟩
 intro Q
 have t:J y Q:=J.push _ _
 have y1:=g1.bg
 have n:J e y:=F.ext
 have A:∀o,af Q c.size o=af y c.size o:=λo=>aK (t.same _ (oh (I c.size aH))) o
 refine⟨A 1,A 0,?_⟩
 refine GS.ku (x:=q) g1 F (ha.le (H (D:=T.az) (r.trans n) V)) (hk.le (H (D:=T.az) (r.trans n) V)) bN λU R g2 v z2 q2=>⟨J.nR (n.trans t) v.ext (λa b=>oh (m a b)),?_⟩
 have p:J e R:=v.ext
 have y2:=g2.bg
 have u:∀{M B:E},J e M->J e B->∀o,af B c.size o=af M c.size o:=λaa h' o=>aK (by rw[h'.same _ (m _ aH),aa.same _ (m _ aH)]) o
 refine⟨u (n.trans t) p 1,u (n.trans t) p 0,?_⟩
 have ae:eH (bG (U.az::h.size::d) R) (g.cut f g.len 5) (aC.drop f):=by
  have:=(s.le (H (D:=U.az) (r.trans p) V)).J4 (i:=f) (j:=g.len) V V;rwa[K,cy (ad _),<-K]at this
 refine GS.all g2 v ae bN λr3 m8 G w z3 q3=>⟨J.nR p w.ext m,u p w.ext 1,?_⟩
 intro m9
 have y3:=G.bg
 have ab:∀a∈h.size::d,a<e.size:=λa b=>by
  rcases List.mem_cons.1 b with l|l
  .omega
  .have:=hS a l;omega
 refine⟨r3,rfl,?_,(r.trans w.ext).ai V _ _⟩
 have hD:=G.done fO.mono ab bh bN
 have ag:Le (bG (h.size::d) m8) (bG d m9):=cb aH λa b=>ah _ b
 exact eH.le ag (by simpa[eZ]using hD)
def DY(C:∀b∈d,b<c.size){u L p:O}{A:List bo}{w:List eP}{q:eP}{n:Nat}{l:Bk}(i:dX (bG d c) u L A w)(D:w[n]? =some q)(h3:q.params.length<=3/\q.df.length<=3)(ag:eH (bG d c) p l.aC):
 qU 230 [.agg #[O.v u,O.v L],vi n,.agg #[O.v p,vi l.aR]] c d A λai=>ai=w.set n ⟨q.params,q.df,q.aR,l⟩:=by
 apply wM
 simp -zeta only[aE,aD]
 intro F h g j
 let⟨r,o,s1,s2,s3⟩:=pK (a:=F) (b:=h) (c:=g) rfl rfl rfl
 have y:J g j:=J.push _ _
 have s4:j.size=g.size+1:=by simp[j]
 have g0:GR (h.size::d) g j (.mk g.size 0 0 0) []:=Gr.new _ (ad _) _ _ _
 clear_value j
 clear_value g
 have u4:=r.trans y
 have an:=i.iD.len;have am:=i.nA
 have ak:=ax D
 have ac:∀b∈[h.size,F.size,c.size],b<j.size:=λb e=>y.lt (o b e)
 have H:∀{M:E}{z:Nat},J c M->c.size<=z->Le (bG d c) (bG (z::h.size::d) M):=λxx aj=>xx.bG λb e=>by
  simp only[aV]at e;rcases e with f|f|f
  .exact Or.inr V
  .exact Or.inr V
  .exact Or.inl f
 refine Gr.all (g:=[.s .nil,.s .nil,.i 0,.s .nil,.i 0]) iv.mono bh g0 (y.fz []) (i.iD.le (H (z:=g.size) u4 V)) bN λm v g1 B z1 q1=>⟨λb e=>q1 b (ac b e) (by have:=o b e;simp;omega),V,V,?_⟩
 simp only[dW]at g1
 have x:J g v:=B.ext
 have y1:=g1.bg
 let⟨ao,ap,t,R,T,c3,U,W,X,Y,Z⟩:=(i.iD.le (H (z:=m.az) (r.trans x) V)).aO D
 have fR:∀{P:Value}{t I:Nat},af (bG (m.az::h.size::d) v) t I=some P->af v t I=some P:=λaa=>(dY.1 aa).2
 refine⟨_,fR U,_,fR W,_,fR X,_,fR Y,_,fR Z,?_⟩
 have z5:=x.size
 refine(xf (b:=m.az::h.size::d) (λb e=>?_) (R.le (bz _ _)) (T.le (bz _ _)) V).mono λrv m6⟨K,N,f,h1,h2,s⟩=>?_
 .simp only[aV]at e
  rcases e with f|f|f
  .omega
  .omega
  .have:=C b f;omega
 subst f
 have g2:=g1.ext iv.mono s
 have al:=g2.len bh
 let⟨wr,g3,f3,q3⟩:=Gr.set (k:=n) (cs:=[.s K,.s N,.i q.aR,.s p,.i l.aR]) (a:=⟨q.params,q.df,q.aR,l⟩) iv.mono g2 (B.then s) V ⟨K,N,p,rfl,h1,h2,ag.le (H (z:=m.az) ((r.trans x).trans s) V)⟩
 refine⟨λb e=>s.same b (oh (o b e)),_,_,_,_,_,rfl,V,V,wr,?_⟩
 intro m7
 refine⟨λb e=>q3 b (oh (o b e)),?_⟩
 intro G
 have ab:∀b∈h.size::d,b<g.size:=λb e=>by
  rcases List.mem_cons.1 e with f|f
  .omega
  .have:=C b f;omega
 have ae:Le (bG (h.size::d) m7) (bG d G):=cb aH λb e=>ah _ e
 have Q:J c G:=(r.trans f3.ext).ai V _ _
 exact⟨u,m,_,rfl,⟨i.bt.le (Q.cR _),yx.le ae (g3.done iv.mono ab bh bN),i.types,bN⟩,rfl,Q⟩
end
def Un{c:List bo}{f:List Nat}{b:Nat}{l:List cE}(h:WL c f True b l){j:Nat}{a v:Int}(e:14<=a/\a<=17)(m:0<=v/\v<((b+dc (l.take j):Nat):Int)):
 WL c f True b (l.take j++[eO a v]++l.drop j)/\dc (l.take j++[eO a v]++l.drop j)=dc l/\sw (l.take j++[eO a v]++l.drop j)=sw l+2:=by
 have d:dc [eO a v]=0:=jH e.1 [v]
 have g:sw [eO a v]=2:=nI a [v]
 have i:=cF (l.take j) (l.drop j)
 have k:=dt (l.take j) (l.drop j)
 rw[dw]at i k
 refine⟨((h.take j).y9 (CR e m)).append ?_,?_,?_⟩
 .rw[cF,d];exact h.drop j
 .rw[cF,cF,d];omega
 .rw[dt,dt,g];omega
def SA(h:Nat)(e:List Value)(m:E)(S:List Nat)(b:Nat)(f:O)(P:Nat)(g:List bo)(Q:List eP->Prop):Prop:=
 aN cq h e m λv a=>∃d r c,v=.agg #[O.v d,O.v r]/\dX (bG S a) d r g c/\Q c/\Rd b f P a/\Fz [b] m a
def Pz{i:List Nat}{m:E}(hS:∀l∈i,l<m.size){d P:Nat}{Q:O}(ax:d∈i)(h0:Rd d Q P m)(hP:P+4<=10^16){y t:O}{B:List bo}{L:List eP}(hn:dX (bG i m) y t B L){aa:Nat}(R:uI B L True aa)(hW:aa<=200000000000):
 SA 173 [vp d 0,.agg #[O.v y,O.v t]] m i d Q (P+4) B λW=>uI B W True (aa+4):=by
 apply I8 (d,0)
 simp -zeta only[aE,aD,bE]
 intro f ag
 let⟨x2,hl⟩:=dj (a:=f) (c:=ag) rfl rfl
 have s1:f.size=m.size+1:=by simp[f]
 have s2:ag.size=m.size+2:=by simp[ag,s1]
 clear_value ag
 have b2:=hn.iD.len;have b1:=hn.nA
 have b3:=h0.lt
 have nb:∀a∈[f.size,m.size],a<ag.size/\a∉[d]:=λa c=>⟨hl a c,by have:=hl a c;simp at c⊢;omega⟩
 have Fe:uI B L True (aa+4):=⟨R.gS,λq C=>let⟨g,a,l,e⟩:=R.de q C;⟨g,a,l,V⟩⟩
 refine(bV (h0.ext x2) V (t.len:Int)).mono λo h⟨ab,e,f0,f1,h3,z3⟩=>⟨z3.da nb,ab,e,?_⟩
 have u3:Fz [d] m h:=(x2.fz _).trans z3
 have bT:ab<(L.length:Int):=by have:=R.gS;omega
 let⟨q,C⟩:=cg L ab.toNat
 let⟨aL,aI,bm,hw⟩:=R.de q (aq C)
 have Hn:∀{M:E},Fz [d] m M->dX (bG i M) y t B L:=λp=>hn.le (p.cR λa c=>by simp at c;subst c;exact ax)
 have HS:∀{M:E}(bb:Nat),m.size<=bb->Fz [d] m M->Le (bG i m) (bG (bb::f.size::i) M):=λbb bO gg=>gg.bG (λa c=>by simp at c;subst c;exact ax) λl s=>by
  simp only[aV]at s;rcases s with e|e|e
  .exact Or.inr V
  .exact Or.inr V
  .exact Or.inl e
 have cm:=z3.size
 let⟨ce,ch,a,c1,c2,c3,e0,e1,e2,e3,e4⟩:=(hn.le (HS h.size V u3)).iD.aO C
 have fR:∀{M:E}{i:List Nat}{o:Value}{a I:Nat},af (bG i M) a I=some o->af M a I=some o:=λF=>(dY.1 F).2
 refine⟨f0,V,a,fR e3,q.body.aR,fR e4,?_⟩
 intro m4 m5
 have x5:J h m5:=(J.push h _).ai (ad _) _ _
 have s5:m5.size=h.size+1:=by simp[m5,m4,aA]
 clear_value m5
 have bP:=c3.len
 have bZ:=c3.fu
 have bQ:=Bk.lg q.body
 have b4:=fw q.body.aC
 have aw:∀a∈[h.size,f.size,m.size],a<m5.size/\a∉[d]:=λa c=>by simp at c⊢;omega
 rw[aQ V V]
 refine(bV (h3.ext x5) V _).mono λo m6⟨G,e,j0,j1,h6,z6⟩=>⟨z6.da aw,G,e,?_⟩
 have u6:Fz [d] m m6:=(u3.then x5).trans z6
 have bH:=z6.size
 have bc:=(Hn u6).le (bz _ _)
 obtain⟨fn,a4⟩:∃fn:Nat,ab=fn:=⟨ab.toNat,V⟩
 subst a4
 simp only[ov]at C
 have al:∀a∈[h.size,f.size,m.size],a<m6.size/\a∉[d]:=λa c=>⟨aJ (aw a c).1 bH,(aw a c).2⟩
 have aP:∀{M:E},Rd d Q (P+4) M->Fz [d] m M->∃d' U W,Value.agg #[O.v y,O.v t]=.agg #[O.v d',O.v U]/\dX (bG i (ai M f.size 0 [.s y,.s t])) d' U B W/\uI B W True (aa+4)/\Rd d Q (P+4) (ai M f.size 0 [.s y,.s t])/\Fz [d] m (ai M f.size 0 [.s y,.s t]):=λhr p=>
  have g':=p.ai (b:=f.size) (Or.inr V) 0 [.s y,.s t]
  ⟨y,t,L,rfl,Hn g',Fe,h0.ai hr p V _ _,g'⟩
 refine(DC bc R hW C V).mono λo D⟨lb,ok,e,A,hA⟩=>⟨A.da λa c=>(al a c).1,(lb,0),ok,e,λ_=>?_,λbe=>?_⟩
 .intro m8
  exact aP ((h6.ext A).mono V) (u6.then A)
 obtain⟨_,jl,ro,sl,av,b9,h7,i7⟩:=hA (by simpa using be)
 intro m8
 have x8:J D m8:=J.push _ _
 have g8:GI i D m8 (.mk D.size 0 0 0) []:=GI.nil i D
 clear_value m8
 have z7:=A.size
 have bR:=pM q.body.aC
 have a3:=Te q.body.aC G.toNat
 have N0:=i7.len 0 bh
 have u7:Fz [d] m D:=u6.then A
 have aF:∀l∈i,l<D.size:=λl s=>aJ (hS l s) u7.size
 refine dx (n:=(av 0).length) V (λap X M=>J D M/\∃H,GI i D M X H/\H.length<=ap/\∀z∈H,0<=z/\z<(((av 0).length:Nat):Int)) ⟨x8,[],g8,ad _,aH⟩ ?_
 rintro ap X m9 bK μ bX ⟨u,H,p,b0,aj⟩ aB
 have h9:=h7.ext u
 have l0:=h9.len (k:=0) bh
 have am:∀a∈[h.size,f.size,m.size],a<m9.size/\a∉[d]:=λa c=>⟨u.lt (A.lt (al a c).1),(al a c).2⟩
 refine⟨_,h9.cJ (k:=0) bh,λa_=>?_,λbU=>?_⟩
 .simp only[an]at a_
  let⟨z,g⟩:=cg (av 0) ap
  refine⟨_,h9.cJ (k:=0) bh,V,V,z,h9.aO bh V g,λ_=>?_,λ_=>aB V _ _ ⟨u,H,p,V,aj⟩⟩
  refine(rR h9 i7 V (v:=(ap:Int)) V V).mono λo az⟨bb,e,w⟩=>⟨w.da λa c=>(am a c).1,bb,e,λ_=>?_,λ_=>aB V _ _ ⟨u.trans w,H,p.ext w,V,aj⟩⟩
  intro T
  have gy:=p.bg
  refine GI.ku (p.ext w) ((u.trans w).fz []) aF V λU bp N K _ Y=>⟨J.nR ((u.trans w).aP _) K.ext (λa c=>A.lt (al a c).1),aB V _ _ ⟨K.ext,_,N,bN,λz g=>?_⟩⟩
  rcases List.mem_append.1 g with g|g
  .exact aj z g
  .simp at g;omega
 .have bW:=p.len bh
  have u9:Fz [d] m m9:=u7.then u
  have r9:Rd d Q (P+2) m9:=(h6.ext (A.trans u)).mono V
  refine⟨λ_=>?_,λbd=>?_⟩
  .intro az
   exact aP (r9.mono V) u9
  simp only[ao]at bd
  have gy:=p.bg
  have gb:X.az∉[d]:=by simp;have:=u7.size;omega
  refine(bV r9 V (X.len:Int)).mono λo az⟨ay,e,i0,i1,aY,ah⟩=>⟨ah.da am,ay,e,i0,V,?_⟩
  let⟨w,aO⟩:=cg H ay.toNat
  let⟨w0,w1⟩:=aj w (aq aO)
  have a5:af m9 X.az (X.off+ay.toNat*1)=some (vi w):=((p.done aF V).le (bz _ _)).aO aO
  refine⟨w,(aK (ah.same _ gy.2 gb) _).trans a5,?_⟩
  have bu:=u9.trans ah
  have cn:=u.size;have bI:=ah.size
  have aG:∀a∈[h.size,f.size,m.size],a<az.size/\a∉[d]:=λa c=>⟨aJ (am a c).1 bI,(am a c).2⟩
  have ew:cQ (cQ ((a.len:Int) -G)+1)=(a.len:Int) -G+1:=by rw[aQ (b:=(a.len:Int) -G) V V,aQ V V]
  rw[ew]
  refine(bV aY V _).mono λo T⟨i2,e,b5,b6,aZ,au⟩=>⟨au.da aG,i2,e,?_⟩
  have aR:=bu.trans au
  have bJ:=au.size
  have ak:∀a∈[h.size,f.size,m.size],a<T.size:=λa c=>aJ (aG a c).1 bJ
  have ac:∀{M:E},T.size<=M.size->∀l∈h.size::f.size::i,l<M.size:=λhz l s=>by
   simp only[aV]at s;have h1:=ak h.size aH;have h2:=ak f.size aH;rcases s with e|e|e
   .omega
   .omega
   .have:=hS l e;have:=aR.size;omega
  have bw:Fz [d] h T:=(((((x5.fz _).trans z6).then A).then u).trans ah).trans au
  have a2:=c3.le (bw.cR λl s=>by simp at s;subst s;simp[ax])
  obtain⟨g,a6⟩:∃g:Nat,G=g:=⟨G.toNat,V⟩
  obtain⟨kn,a9⟩:∃kn:Nat,i2=kn:=⟨i2.toNat,V⟩
  subst a6 a9
  have bl:g+kn<=q.body.aC.length:=V
  have aX:cQ ((g:Int)+(kn:Int))=((g+kn:Nat):Int):=by rw[aQ V V];omega
  simp only[ov]at N0 a3
  let⟨bn,r0,r1⟩:=bm.bB
  have bS:dc (q.body.aC.take g)<=dc (q.body.aC.take (g+kn)):=by
   have:=Te (q.body.aC.take (g+kn)) g;rwa[LD,jt V]at this
  let⟨bB,bx,bD⟩:=Un (j:=g+kn) (a:=15) (v:=w) bn bh ⟨w0,V⟩
  have bk:(q.body.aC.take (g+kn)++[eO 15 w]++q.body.aC.drop (g+kn)).take g=q.body.aC.take g:=by
   rw[eZ,mO bN,LD,jt V]
  let⟨bC,bA,bF⟩:=Un (j:=g) (a:=14) (v:=w) bB bh ⟨w0,by rw[bk];omega⟩
  generalize aN:q.body.aC.take (g+kn)++[eO 15 w]++q.body.aC.drop (g+kn)=st1 at*
  have bY:st1.length=q.body.aC.length+1:=by rw[<-aN];simp;omega
  have K:∀{M Z:E},J M Z->T.size<=M.size->∀a∈[h.size,f.size,m.size],∀I,af Z a I=af M a I:=λxx hz a c I=>aK (xx.same a (aJ (ak a c) hz)) I
  have kS:∀{M Z:E},J M Z->T.size<=M.size->eG [h.size,f.size,m.size] M Z:=λxx hz a c=>xx.same a (aJ (ak a c) hz)
  rw[aX]
  refine(iK (c:=h.size::f.size::i) (ac (ad _)) 15 w).mono λo bp⟨bL,b7,e,a0,a7,N⟩=>⟨kS N (ad _),_,_,_,_,_,e,K N (ad _) _ aH _,K N (ad _) _ aH _,?_⟩
  have aW:=N.size
  refine(zZ (d:=h.size::f.size::i) (S:=q.body.aR) (q:=eO 15 w) (ac aW) (a2.le (N.cR _)) a0 a7 bl V).mono λo bq⟨bt,e,aM,ar⟩=>⟨kS ar aW,_,_,e,?_⟩
  rw[aN]at aM
  intro ae
  have ci:=ar.size
  have cj:ae.size=bq.size:=aA _ _ _ _
  have aS:=(aR.then N).then ar
  have bv:Fz [d] m ae:=aS.ai (Or.inr V) _ _
  have bs:Rd d Q (P+2+1+1) ae:=h0.ai ((aZ.ext N).ext ar) aS V _ _
  have bi:eH (bG (h.size::f.size::i) ae) bt st1:=aM.le (cb aH λ_ F=>F)
  clear_value ae
  refine(iK (c:=h.size::f.size::i) (ac V) 14 w).mono λo b_⟨bM,b8,e,a1,a8,z⟩=>⟨kS z V,_,_,_,_,_,e,K z V _ aH _,K z V _ aH _,K z V _ aH _,K z V _ aH _,?_⟩
  have ck:=z.size
  refine(zZ (d:=h.size::f.size::i) (S:=q.body.aR) (q:=eO 14 w) (ac V) (bi.le (z.cR _)) a1 a8 (f:=g) V V).mono λo ca⟨cf,e,bj,Y⟩=>⟨kS Y V,_,_,e,K Y V _ aH _,K Y V _ aH _,?_⟩
  have cl:=Y.size
  have aT:=(bv.then z).then Y
  refine(DY (d:=h.size::f.size::i) (ac V) (l:=.mk (st1.take g++[eO 14 w]++st1.drop g) q.body.aR) (hn.le (HS h.size V aT)) C ⟨aL,aI⟩ bj).mono λo cc⟨d',U,W,e,ba,bg,aC⟩=>⟨kS aC V,d',U,e,?_⟩
  intro cd
  have aU:=aT.then aC
  refine⟨d',U,W,rfl,ba.le (cb aH λl s=>by simp[s]),?_,h0.ai (((bs.ext z).ext Y).ext aC) aU V _ _,aU.ai (Or.inr V) _ _⟩
  subst bg
  refine⟨by simp;exact R.gS,λbr bf=>?_⟩
  rw[Xa (b:=⟨q.params,q.df,q.aR,.mk (st1.take g++[eO 14 w]++st1.drop g) q.body.aR⟩) C rfl]
  rcases cL bf with F|F
  .exact Fe.de br F
  .subst F
   refine⟨aL,aI,.of bC ⟨r0,by rw[bA,bx];exact r1⟩,?_⟩
   show Bk.w (.mk _ _)<=_
   rw[Bk.qd,bF,bD];omega
section
variable{f:E}{t:O}{d:Bk}{j e:Int}{g l:List Nat}{h c:Nat}
def pp(l:eH f t d.aC):rB 278 [.agg #[O.v t,vi d.aR]] f λc=>0<=c/\c<=d.aC.length/\∀(i:Nat)(e:cE),d.aC[i]? =some e->(i:Int)<c->14<=e.op/\e.op<=17:=by
 apply xQ;simp -zeta only[aE,aD];intro a;have B:J f a:=J.push _ _;have w:∀q∈[f.size],q<a.size:=by simp[a]
 clear_value a;have x:=l.len;refine dZ (n:=d.aC.length) (x▸l.fu) (λc M=>J a M/\∀(i:Nat)(e:cE),d.aC[i]? =some e->i<c->14<=e.op/\e.op<=17) ⟨J.aF _,λi e _ b=>V⟩ ?_;rintro c M I μ L ⟨p,o⟩ z
 have u:=B.trans p;have R:∀{m:E},J f m->∃k:Int,vi (c:Int)=vi k/\(0<=k/\k<=d.aC.length/\∀(i:Nat)(e:cE),d.aC[i]? =some e->(i:Int)<k->14<=e.op/\e.op<=17)/\J f m:=λD=>⟨c,rfl,⟨V,V,λi e g b=>o i e g V⟩,D⟩;refine⟨λb=>?_,λb=>R u⟩;simp only[an]at b;let⟨e,g⟩:=cg d.aC c;obtain⟨h,P,H,N,s,_⟩:=l.aO g;refine⟨V,V,_,u.af s,?_⟩;refine(sP e.op M).aI p w λG Q v C A=>⟨_,rfl,λy=>z V _ ⟨A,λi F j K=>?_⟩,λ_=>R (u.trans C)⟩;by_cases r:i=c
 .subst r;rw[g]at j;simp at j;subst j;exact v.1 y
 .exact o i F j V
def Cy(b:eH f t d.aC){w:Int}(K:0<=j/\j<=d.aC.length)(z:∀(r:Nat)(s:cE),d.aC[r]? =some s->(r:Int)<j->0<s.args.length):
 rB 279 [.agg #[O.v t,vi d.aR],vi j,vi w,vi e] f λc=>-1<=c/\(0<=c->c<j/\∃s:cE,d.aC[c.toNat]? =some s/\s.op=w/\s.args[0]? =some e):=by
 apply FU
 simp -zeta only[aE,aD]
 intro i
 have B:J f i:=J.push _ _
 clear_value i
 have L:=b.len
 have H:=b.fu
 obtain⟨k,A⟩:∃k:Nat,j=k:=⟨j.toNat,V⟩
 subst A
 refine dZ (n:=k) V (λc M=>J i M) (J.aF _) ?_
 rintro c M I μ F l v
 have u:=B.trans l
 refine⟨λa=>?_,λa=>⟨-1,rfl,⟨V,λa=>V⟩,u⟩⟩
 simp only[an]at a
 let⟨s,g⟩:=cg d.aC c
 let⟨h,N,m,G,x,g1,g2,y,D⟩:=b.aO g
 have E:=m.len
 have:=z c s g V
 let⟨C,q⟩:=cg s.args 0
 refine⟨V,V,_,u.af x,λo=>⟨V,V,_,u.af y,bh,V,C,(m.ext u).aO q,λp=>?_,λ_=>v V _ l⟩,λ_=>v V _ l⟩
 simp only[aM]at o p
 refine⟨c,rfl,⟨V,λ_=>⟨V,s,?_,o,by rw[<-p];exact q⟩⟩,u⟩
 simpa using g
def Od(k:eH f t d.aC){b:Int}(D:0<=b/\b<=d.aC.length):rB 286 [.agg #[O.v t,vi d.aR],vi b,vi j] f λc=>(-1<=c/\c<d.aC.length)/\(0<=c->b<=c/\∀s,d.aC[c.toNat]? =some s->s.op=6):=by
 apply Hm;simp -zeta only[aE,aD];intro l;have y:J f l:=J.push _ _;clear_value l;have w:=k.len;obtain⟨g,v⟩:∃g:Nat,b=g:=⟨b.toNat,V⟩;subst v;refine VX (n:=d.aC.length) (b:=g) V (w▸k.fu) (λc M=>J l M) (J.aF _) ?_;rintro c M I μ _ B o x
 have u:=y.trans o;refine⟨λi=>?_,λi=>⟨-1,rfl,⟨⟨V,V⟩,λi=>V⟩,u⟩⟩;simp only[an]at i;let⟨s,m⟩:=cg d.aC c;let⟨h,E,A,C,p,g1,g2,q,z⟩:=k.aO m;have N:=x V _ o
 exact⟨V,V,_,u.af p,λr=>⟨V,V,_,u.af g2,λ_=>⟨V,V,_,u.af q,λ_=>⟨c,rfl,⟨⟨V,V⟩,λ_=>⟨V,λF e=>by simp at e;rw[m]at e;cases e;simpa using r⟩⟩,u⟩,λ_=>N⟩,λ_=>N⟩,λ_=>N⟩
def Hp(d:Bk)(Z:∀l∈g,l<f.size)(C:eH f t d.aC)(hw:d.w<=10^12):aN cq 280 [.agg #[O.v t,vi d.aR]] f λai E=>∃s,ai=.agg #[O.v s,vi d.aR]/\GS g f E s d.aC/\J f E:=by
 let⟨aC,q⟩:=d;rw[Bk.qd]at hw;simp only[Bk.jG,Bk.iZ]at*;apply qN;simp -zeta only[aE,aD];intro j b h F p;let⟨K,A⟩:=dj (a:=j) (c:=b) rfl rfl;have s0:j.size=f.size+1:=by simp[j]
 have s1:b.size=f.size+2:=by simp[b,s0]
 have s2:h.size=b.size+1:=by simp[h]
 have s3:F.size=h.size+1:=by simp[F]
 have L:J h p:=(J.push h _).ai (ad _) _ _;have aj:J b p:=(J.push b _).trans L;have x:GS (h.size::j.size::g) b p (.mk b.size 0 0 0) []:=(GS.new _ b).ext fO.mono L;have N:cz p h.size cY [.s (.mk b.size 0 0 0),.i q]:=cz.ai (m:=F) (o:=0) (r:=[.s (.mk b.size 0 0 0),.i q]) (cz.push h _ _);clear_value p;have aa:∀l∈j.size::g,l<b.size:=bQ Z K.size (A _ aH);have ag:=C.len;have al:=fw aC;refine dZ (n:=aC.length) (ag▸C.fu) (λc M=>J b M/\∃s,GS (h.size::j.size::g) b M s (aC.take c)/\cz M h.size cY [.s s,.i q]) ⟨aj,_,x,N⟩ ?_;rintro c G ak μ hk ⟨w,s,v,B⟩ ah
 have k:=K.trans w;have af:∀d∈[j.size,f.size],d<G.size:=λd y=>w.lt (A d y);have hy:=v.bg;have z5:=w.size;have I:=B.lt;refine dit (λY=>?_) λY=>?_
 .let⟨e,D⟩:=cg aC c;let⟨pa,pk,ha,ae,x,g1,g2,W,X⟩:=C.aO D;have am:=Oj D;refine⟨s,B.cJ 0,V,V,_,k.af x,_,k.af g1,_,k.af g2,_,k.af W,_,k.af X,?_⟩;refine(wZ (e:=s.az::h.size::j.size::g) (bQ (bQ aa z5 I) (ad _) hy.2) (ha.ext k) (ae.le k.le) V (λd _=>vj d)).aI (J.aF G) af λP Q x' H ab ac R u _=>⟨_,_,_,_,_,rfl,aK (u.same _ I) _,?_⟩;subst R;intro m7;refine Gr.box (g:=[.i 0,.i 0,.i 0,.s .nil,.s .nil]) (j:=0) (i:=[.s s,.i q]) (w:=e) fO.mono bh (v.ext fO.mono u) ((w.trans u).fz []) ⟨P,Q,rfl,ab,ac⟩ bN (B.ext u) aH bh ⟨V,aH⟩ (λl z=>by have M:=A l z;have T:=u.size;omega) λr' E U M T z' q'=>ah V _ ⟨T.ext,r',?_,M⟩
  rw[bC D];exact U
 .rw[cy V]at v;refine⟨s,B.cJ 0,q,B.cJ 1,?_⟩;intro H;have u:Fz [j.size] G H:=(Fz.aF _ _).ai (Or.inl aH) _ _;have D:GS g b H s aC:=v.re fO.mono u aH bN λl z=>Or.inl (by simp[z]);exact⟨s,rfl,Gr.cG fO.mono D (λd y=>Or.inl y) V,k.ai V _ _⟩
def Uo{f:List bo}{d:Prop}{a:List cE}(j:WL f l d h a){e b:cE}(g:a[c]? =some e)(p:WS f l d (h+dc (a.take c)) b)(hd:dn b=dn e):
 WL f l d h (a.set c b)/\dc (a.set c b)=dc a/\sw (a.set c b)+e.w=sw a+b.w:=by
 have o:=ax g
 have k:a.set c b=a.take c++([b]++a.drop (c+1)):=by rw[OE,ak o];rfl
 have i:a=a.take c++([e]++a.drop (c+1)):=by
  let⟨m,n⟩:=List.getElem?_eq_some_iff.1 g;rw[<-n];show a=a.take c++(a[c]::a.drop (c+1));rw[<-lC m,dw]
 have q:dc a=dc (a.take c)+(dn e+dc (a.drop (c+1))):=by
  conv=>lhs;rw[i]
  rw[cF,cF,jY,sB];omega
 have r:sw a=sw (a.take c)+(e.w+sw (a.drop (c+1))):=by
  conv=>lhs;rw[i]
  rw[dt,dt,lZ,uC];omega
 rw[k]
 refine⟨(j.take c).append ((WL.ln p).append ?_),?_,?_⟩
 .have:=j.drop (c+1)
  rw[ql g]at this
  rw[jY,sB,hd,jm,dR];exact this
 .rw[cF,cF,jY,sB];omega
 .rw[dt,dt,lZ,uC];omega
def _root_.Go.Vc.Gr.cells{α:Type}{r:E}{m d:Nat}{R:E->List Ce->α->Prop}{s:O}{l:List α}(n:Gr g r f m d R s l){e:α}(i:l[c]? =some e):∃a,R (bG (s.az::g) f) a e/\gP f s.az (s.off+c*d) a:=by
 let⟨t,k,o,b⟩:=n;let⟨a,h⟩:=cg k c (by rw[b.len];exact ax i);refine⟨a,b.de c a e h i,λq j p=>?_⟩;have:=o.jC (c*d+q) j (iJ b.size h p);rwa[<-dR]at this
def Jp(hS:∀c∈g,c<f.size)(w:eH f t d.aC){U:List bo}(aq:WB U l True h d)(hw:d.w<=10^12)(hx:0<=e/\e<(h:Int))(a7:h<=10^12)(j:Int):
 aN cq 277 [.agg #[O.v t,vi d.aR],vi e,vi j] f λaa m'=>∃s o,aa=.agg #[O.v s,vi o.aR]/\eH m' s o.aC/\(eH (bG g f) t d.aC->eH (bG g m') s o.aC)/\(WB U l True h o/\o.w<=d.w)/\J f m':=by
 apply BW
 simp -zeta only[aE,aD]
 intro n u
 let⟨D,q⟩:=dj (a:=n) (c:=u) rfl rfl
 have s1:n.size=f.size+1:=by simp[n]
 have s2:u.size=f.size+2:=by simp[u,s1]
 clear_value u
 let⟨Z,aV⟩:=aq.bB
 have F:∀{ac M':E},J u ac->J u M'->∀L,af M' f.size L=af ac f.size L:=λp h' L=>aK (by rw[h'.same _ (q _ aH),p.same _ (q _ aH)]) L
 refine(pp (w.le D.le)).aI (J.aF u) q λn1 m3 Y T _=>⟨_,rfl,F (J.aF _) T _,F (J.aF _) T _,?_⟩
 refine(Cy (w.le (D.trans T).le) (w:=16) (e:=e) ⟨Y.1,Y.2.1⟩ λar s hi aP=>?_).aI T q λn2 m4 aR x4 P=>⟨_,rfl,?_⟩
 .have:=Y.2.2 ar s hi aP
  have:=(Z ar s hi).dU.ln V
  omega
 refine(pp (w.le (D.trans P).le)).aI P q λn3 m5 an x5 Q=>⟨_,rfl,F P Q _,F P Q _,?_⟩
 refine(Od (w.le (D.trans Q).le) (j:=j) ⟨an.1,an.2.1⟩).aI Q q λn4 A⟨bc,ao⟩ x6 v6=>⟨_,rfl,?_⟩
 have u6:=D.trans v6
 have ay:∃s o,Value.agg #[O.v t,vi d.aR]=.agg #[O.v s,vi o.aR]/\eH (ai A n.size 0 [.s t,.i d.aR]) s o.aC/\(eH (bG g f) t d.aC->eH (bG g (ai A n.size 0 [.s t,.i d.aR])) s o.aC)/\(WB U l True h o/\o.w<=d.w)/\J f (ai A n.size 0 [.s t,.i d.aR]):=
  have W:=u6.ai (b:=n.size) V 0 [.s t,.i d.aR]
  ⟨t,d,rfl,w.le W.le,λp=>p.le (W.cR _),⟨aq,ad _⟩,W⟩
 refine⟨λ_=>ay,λh2=>⟨λ_=>ay,λh4=>?_⟩⟩
 simp only[br]at h2 h4
 have z6:=v6.size
 have ak:∀c∈n.size::g,c<A.size:=λc i=>by
  rcases List.mem_cons.1 i with m|m
  .omega
  .have:=hS c m;omega
 refine(Hp d ak (w.le u6.le) hw).mono λaa K⟨M,m,g7,x7⟩=>⟨λc i=>x7.same c (oh (q c i)),_,_,m,?_⟩
 intro m8 B
 have x9:J K B:=(J.push K _).ai (ad _) _ _
 have s9:B.size=K.size+1:=by simp[B,m8,aA]
 clear_value B
 have y7:=g7.bg
 have z7:=x7.size
 have g9:=g7.ext fO.mono x9
 have am:∀c∈[K.size,n.size,f.size],c<B.size/\c≠M.az:=λc i=>by simp at i;omega
 refine(iK (c:=M.az::n.size::g) (λc i=>?_) 17 e).mono λaa av⟨ag,au,m,aM,aO,C⟩=>⟨λc i=>C.same c (am c i).1,_,_,_,_,_,m,aK (C.same _ V) _,?_⟩
 .rcases List.mem_cons.1 i with m|m
  .omega
  .have:=ak c m;omega
 have aj:=g9.ext fO.mono C
 have bi:=aj.len bh
 let⟨bb,N,G,bd,a8⟩:=aR.2 V
 have aB:J A av:=(x7.trans x9).trans C
 have aS:=ax G
 let⟨a1,X,aG,aZ⟩:=Gr.set (k:=n2.toNat) (cs:=[.i 17,.i 0,.i 0,.s ag,.s au]) (a:=eO 17 e) fO.mono aj (aB.fz []) aS ⟨ag,au,rfl,aM,aO⟩
 refine⟨V,V,a1,?_⟩
 intro H
 have bn:=C.size
 have bj:H.size=av.size:=aA _ _ _ _
 refine⟨λc i=>aZ c (am c i).2,V,V,?_⟩
 have aW:=Z _ N G
 have w1:=aW.dU.ln (Or.inl V)
 have d1:dn (eO 17 e)=dn N:=by
  unfold dn;rw[ae (λp:oG _=>by have:=p.2;simp only[eO]at this;omega),ae (λp:oG _=>oh p.2)]
 let⟨az,a3,bl⟩:=Uo Z G (CR (c:=17) (v:=e) bh ⟨hx.1,V⟩) d1
 have bf:=cE.lg N
 have a_:(eO 17 e).w=2:=rfl
 let⟨y,z⟩:=cg (d.aC.set n2.toNat (eO 17 e)) n4.toNat bN
 have ba:=X.len bh
 obtain⟨a6,⟨pa,pk,rfl,aT,aU⟩,k8⟩:=X.cells z
 have e0:=k8 0 _ rfl;have e1:=k8 1 _ rfl;have e2:=k8 2 _ rfl;have e3:=k8 3 _ rfl;have e4:=k8 4 _ rfl
 refine⟨_,e0,_,e1,_,e2,_,e3,_,e4,?_⟩
 intro aX I
 have R:J H I:=(J.push H _).ai (ad _) _ _
 have bk:I.size=H.size+1:=by simp[I,aX,aA]
 clear_value I
 have aJ:=X.ext fO.mono R
 have aF:cQ (1+e)=1+e:=aQ V V
 rw[aF]
 have aC:=(aG.then R)
 let⟨a2,aL,aI,a0⟩:=Gr.set (k:=n4.toNat) (cs:=[.i y.op,.i y.bK,.i (1+e),.s pa,.s pk]) (a:=⟨y.op,y.bK,1+e,y.args,y.bF⟩) fO.mono aJ aC bN ⟨pa,pk,rfl,ap.le (R.cR _) aT,mX.le (R.cR _) aU⟩
 refine⟨V,V,a2,?_⟩
 intro aw
 have r:=az _ y z
 let⟨a5,a4,bm⟩:=Uo (b:=⟨y.op,y.bK,1+e,y.args,y.bF⟩) az z ⟨⟨r.dU.op,r.dU.args,r.dU.ln,⟨by show 0<=1+e;omega,by show 1+e<=_;omega⟩,r.dU.Jw,r.dU.all,λ_=>(ao V).2 y (by rw[dT λm=>by have:=(ao V).2 N (m▸G);omega]at z;exact z),r.dU.ar⟩,r.bF⟩ rfl
 refine⟨λc i=>a0 c (by simp at i;omega),?_⟩
 intro aY
 have bg:(⟨y.op,y.bK,1+e,y.args,y.bF⟩:cE).w=y.w:=rfl
 have a9:=Bk.lg d
 have be:=fw d.aC
 have ab:eH (bG (n.size::g) aw) M _:=aL.ng fO.mono (S:=n.size::g) (λi=>by
  rcases List.mem_cons.1 i with m|m
  .omega
  .have:=hS _ m;omega) bh bN
 have al:Le (bG (n.size::g) aw) (bG g aY):=cb aH λc i=>ah _ i
 refine⟨M,.mk _ d.aR,rfl,(ab.le al).le (bz _ _),λ_=>ab.le al,⟨.of a5 (by rw[a4,a3];exact aV),?_⟩,(u6.trans aI.ext).ai V _ _⟩
 rw[Bk.qd];omega
end
def SH(c:List bo)(d:List eP)(N:Nat):Prop:=∀(b:Bk),b.w<=N->∀(S:List Nat)(m:E),(∀a∈S,a<m.size)->∀(f r t kJ:O)(l:List Int)(a:Nat),dX m f r c d->eH m t b.aC->ap m kJ l->WB c (pc d) True a b->a+4*b.w<=10^12->l.length+4*b.w<=10^12->
 mP 233 [.agg #[O.v f,O.v r],.agg #[O.v t,vi b.aR],O.v kJ] m S λe=>WB c (pc d) True a e/\e.w<=b.w
def Jq{D:List Nat}{m:E}(hS:∀c∈D,c<m.size){R ac pa pk kJ:O}{j:List bo}{A:List eP}{a:cE}{y:List Int}{F:Nat}(q:dX m R ac j A)(ha:ap m pa a.args)(hk:mX m pk a.bF)(I:ap m kJ y)(Y:WS j (pc A) True F a)(hb:F+4*a.w<=10^12)(a2:y.length+4*a.w<=10^12){l:Nat}{i:Bk}(U:a.bF[l]? =some i)(ih:SH j A i.w):
 mP 259 [.agg #[O.v R,O.v ac],oE a pa pk,vi l,O.v kJ] m D λk=>WB j (pc A) True (F+AE j a.op a.bK l) k/\k.w<=i.w:=by
 apply BY
 simp -zeta only[aE,aD]
 intro aa s b
 let⟨f,hl,s1,h,s3⟩:=pK (a:=aa) (b:=s) (c:=b) rfl rfl rfl
 clear_value b
 let⟨aj,ht,f0,f1⟩:=hk.aO U
 have a0:=ax U
 have a1:=hk.len
 have aW:=ha.len
 have a5:=cE.lg a
 have aY:=uj U
 have ae:=Y.bF l i U
 have aZ:=i.Gj
 have aF:∀{M:E},J b M->∀c∈s.size::D,c<M.size:=λxx c d=>by
  have:=xx.size;rcases List.mem_cons.1 d with e|e
  .omega
  .have:=hS c e;omega
 have hO:∀(M:E)(Z u:O)(l':List Int)(k:Bk)(Lx:List Nat),J m M->J b M->(∀c∈Lx,c<M.size)->eH M u k.aC->ap M Z l'->l'.length<=y.length+1->WB j (pc A) True (F+AE j a.op a.bK l) k->k.w<=i.w->
  aN cq 233 [.agg #[O.v R,O.v ac],.agg #[O.v u,vi k.aR],O.v Z] M λv r=>eG Lx M r/\∃(h:O)(b2:Bk),v=.agg #[O.v h,vi b2.aR]/\∀g,g=ai r s.size 0 [.s h,.i b2.aR]->∃s3 b3,(Value.agg #[O.v h,vi b2.aR])=.agg #[O.v s3,vi b3.aR]/\eH (bG D g) s3 b3.aC/\(WB j (pc A) True (F+AE j a.op a.bK l) b3/\b3.w<=i.w)/\J m g:=λM Z u l' k Lx xm aU aC hs aL a3 aR aQ=>by
  have h3:=OU q.types a.op a.bK l
  refine(ih k aQ (s.size::D) M (aF aU) R ac u Z l' _ (q.le xm.le) hs aL aR V V).mono λv r⟨h,b2,e,aO,aG,x'⟩=>⟨x'.da aC,h,b2,e,λg am=>⟨h,b2,rfl,?_,⟨aG.1,V⟩,?_⟩⟩
  .rw[am];exact aO.le (cb aH λc d=>ah _ d)
  .rw[am];exact(xm.trans x').ai V _ _
 refine⟨λG=>?_,λG=>?_⟩
 .refine⟨V,V,_,f.af f0,_,f.af f1,?_⟩
  refine(hO b kJ aj y i _ f (J.aF _) hl (ht.le f.le) (I.ext f) V ae (ad _)).mono λv r⟨o,h,b2,e,p⟩=>⟨o,_,_,e,?_⟩
  intro g
  exact p g rfl
 .have G:a.op=8:=by simpa using G
  obtain⟨aX,_⟩:=Y.dU.all G
  have aV:=Y.dU.ln (Or.inr (Or.inr G))
  let⟨B,hy⟩:=cg a.args 0
  let⟨y0,y1⟩:=Y.dU.args B (aq hy)
  refine⟨bh,V,B,(ha.ext f).aO hy,V,V,_,f.af f0,_,f.af f1,?_⟩
  intro m4 t
  have x5:J b t:=(J.push b _).ai (ad _) _ _
  have s5:t.size=b.size+1:=by simp[t,m4,aA]
  clear_value t
  have L:=f.trans x5
  have w:∀{M:E},J t M->∀c∈[b.size,s.size,aa.size,m.size],c<M.size:=λxx c d=>by have:=xx.size;simp at d;omega
  refine(dg (I.ext L) B).any.aI (J.aF t) (w (J.aF _)) λbb m6 n _=>⟨_,rfl,λ_=>?_,λ_=>?_⟩
  .have N:=L.trans n
   let⟨cn,aI⟩:=cg (bY j a.bK) l
   have C:∀{M M':E},J t M->J M M'->∀c∈[b.size,s.size,aa.size,m.size],∀ab,af M' c ab=af M c ab:=λT h' c d ab=>aK (h'.same c (w T c d)) ab
   refine(gQ (e:=[]) aH (q.bt.le N.le) q.types a.bK).aI n (w (J.aF _)) λs7 l7 m7 X e x7 v7=>⟨_,rfl,C n x7 _ aH _,C n x7 _ aH _,C n x7 _ aH _,?_⟩
   subst e
   have X:=X.le (bz _ _)
   have l7:=X.len
   refine⟨V,V,cn,X.aO aI,?_⟩
   refine(dC (e:=[]) aH (q.bt.le ((L.trans v7).le.trans (yS _))) q.types cn).aI v7 (w (J.aF _)) λs8 l8 m8 a4 e x8 v8=>⟨_,rfl,C v7 x8 _ aH _,C v7 x8 _ aH _,?_⟩
   subst e
   have z8:=v8.size
   have h3:=OU q.types a.op a.bK l
   have an:eH (bG [b.size] m8) aj i.aC:=ht.le ((yS m).trans ((L.trans v8).bG λc d=>Or.inr (by simp at d;omega)))
   refine(Jp (g:=[b.size]) bN (an.le (bz _ _)) ae V (e:=B) ⟨y0,V⟩ V (s8.len:Int)).mono λv m9⟨s9,b9,e,_,aP,H,x9⟩=>⟨λc d=>x9.same c (w v8 c d),_,_,e,?_⟩
   intro z
   have v9:=v8.trans x9
   have al:J b z:=(x5.trans v9).ai V _ _
   have W:eH z s9 b9.aC:=((aP an).le (cb (a:=[b.size]) aH λ_ T=>T)).le (bz _ _)
   have a9:z.size=m9.size:=aA _ _ _ _
   have z9:=v9.size
   have K:∀{M:E},z.size<=M.size->∀c∈[b.size,s.size,aa.size,m.size],c<M.size:=λT c d=>by simp at d;omega
   clear_value z
   refine(pp W).aI (J.aF z) (K (ad _)) λa7 a6 ag az _=>⟨_,rfl,?_⟩
   obtain⟨aS,_⟩:=H.1.bB
   refine(Cy (W.le az.le) (w:=17) (e:=B) ⟨ag.1,ag.2.1⟩ λao u hj aM=>?_).aI az (K (ad _)) λa8 aT _ a_ P=>⟨_,rfl,λ_=>?_,λ_=>?_⟩
   .have:=ag.2.2 ao u hj aM
    have:=(aS ao u hj).dU.ln V
    omega
   .have Q:=al.trans P
    refine(np (S:=[]) aH ((I.ext (f.trans Q)).le (yS _)) B V).aI P (K (ad _)) λaw ar au aB av ba ak=>⟨_,rfl,?_⟩
    have ay:=al.trans ak
    have aJ:ap au aw ar:=(aB.done aH (oh av.2)).le (bz _ _)
    refine(hO au aw s9 ar b9 _ (f.trans ay) ay (K ak.size) (W.le ak.le) aJ av.2 H.1 H.2).mono λv r⟨o,h,b2,e,p⟩=>⟨o,_,_,e,?_⟩
    intro g
    exact p g rfl
   .have Q:=al.trans P
    refine(hO aT kJ s9 y b9 _ (f.trans Q) Q (K P.size) (W.le P.le) (I.ext (f.trans Q)) V H.1 H.2).mono λv r⟨o,h,b2,e,p⟩=>⟨o,_,_,e,?_⟩
    intro g
    exact p g rfl
  .have N:=L.trans n
   refine(hO m6 kJ aj y i _ N (x5.trans n) (w n) (ht.le N.le) (I.ext N) V ae (ad _)).mono λv r⟨o,h,b2,e,p⟩=>⟨o,_,_,e,?_⟩
   intro g
   exact p g rfl
section
variable{c:List eP}
def SH.gE{b:List bo}{N a:Nat}(h:SH b c N)(e:a<=N):SH b c a:=λd f=>h d (bH f e)
def FL{K:List bo}:∀N:Nat,SH K c N:=by
 intro N;induction N with
 |zero=>intro v hb;have:=v.Gj;omega
 |succ N t=>
 intro v hb p R hS aI a5 a6 kJ a3 ae hn hs ao av aM aR;let⟨aC,A⟩:=v;have ai:=av.bB;rw[Bk.qd]at*;simp only[Bk.jG,Bk.iZ]at*;apply xX;simp -zeta only[aE,aD];intro T j h f m5 G;let⟨x3,hl,s1,s2,s3⟩:=pK (a:=T) (b:=j) (c:=h) rfl rfl rfl;have s4:f.size=h.size+1:=by simp[f]
 have aj:J f G:=(J.push f _).ai (ad _) _ _;have aB:J h G:=(J.push h _).trans aj;have g0:GS (f.size::j.size::p) h G (.mk h.size 0 0 0) []:=(GS.new _ h).ext fO.mono aj;have B0:cz G f.size cY [.s (.mk h.size 0 0 0),.i A]:=cz.ai (m:=m5) (o:=0) (r:=[.s (.mk h.size 0 0 0),.i A]) (cz.push f _ _);have al:∀d∈j.size::p,d<h.size:=bQ hS x3.size (hl _ aH);clear_value G;clear_value h;have ap:=hs.len;have ar:=Au aC;have aX:=fw aC;refine dZ (n:=aC.length) (ap▸hs.fu) (λl M=>J h M/\∃s u,GS (f.size::j.size::p) h M s u/\cz M f.size cY [.s s,.i A]/\u.length=l/\WL K (pc c) True ae u/\dc u=dc (aC.take l)/\sw u<=sw (aC.take l)) ⟨aB,_,[],g0,B0,rfl,WL.nil _ _ _ _,aH,aH⟩ ?_;rintro l M aF μ hk ⟨xM,s,u,O,B,aT,wl,P,au⟩ az
 have y:=x3.trans xM;have aQ:∀{q:E},h.size<=q.size->∀d∈[j.size,T.size,R.size],d<q.size:=λz d e=>aJ (hl d e) z;have hy:=O.bg;have zM:=xM.size;have aL:=B.lt;refine dit (λz=>?_) λz=>?_
 .let⟨x,D⟩:=cg aC l;let⟨pa,pk,ha,Z,e0,e1,e2,e3,e4⟩:=hs.aO D;have a0:=Oj D;have a2:=cE.lg x;have aN:=pL x.bF;have a1:=pt D;have aZ:=ql D;have Q:=ai.1 l x D;have aP:=pM (aC.take l);have aW:=fw (aC.take l);have aY:=ar (l+1);refine⟨V,V,_,y.af e0,_,y.af e1,_,y.af e2,_,y.af e3,_,y.af e4,?_⟩;intro m7 k m9;have x8:J M k:=(J.push M _).ai (ad _) _ _;have s8:k.size=M.size+1:=by simp[k,m7,aA]
  have x9:J k m9:=J.push _ _;have ak:GB (s.az::f.size::j.size::p) k m9 (.mk k.size 0 0 0) []:=GB.new _ k;clear_value m9;clear_value k;have Y:∀d∈s.az::f.size::j.size::p,d<k.size:=λd e=>by
   simp only[aV]at e;rcases e with g|g|g|g
   .omega
   .omega
   .omega
   .have:=hS d g;omega
  have aa:=Z.len;refine dx (n:=x.bF.length) (aa▸Z.fu) (λF ks q=>J k q/\∃lk,GB (s.az::f.size::j.size::p) k q ks lk/\lk.length=F/\(∀(w:Nat)(v:Bk),lk[w]? =some v->WB K (pc c) True (ae+dc (aC.take l)+AE K x.op x.bK w) v)/\bw lk<=bw (x.bF.take F)) ⟨x9,[],ak,rfl,aH,aH⟩ ?_;rintro F ks I I2 μ2 hj ⟨H,lk,X,aS,ag,an⟩ ay;have C:J R I:=y.trans (x8.trans H);have yk:=X.bg;have z2:=H.size;have ab:∀{q:E},k.size<=q.size->∀d∈[M.size,j.size,T.size,R.size],d<q.size:=λz d e=>by simp at e;omega
  refine dit (λh2=>?_) λh2=>?_
  .let⟨v,U⟩:=cg x.bF F;have aO:=uj U;have am:=tP U;refine(Jq (D:=ks.az::s.az::f.size::j.size::p) (λd e=>?_) (hn.le C.le) (ha.ext C) (Z.le C.le) (ao.ext C) Q V V U (t.gE V)).aI (J.aF I) (ab z2) λss b' a4 aq af ac _=>⟨_,_,rfl,?_⟩
   .rcases List.mem_cons.1 e with g|g
    .omega
    .have:=Y d g;omega
   refine GB.ku (c:=b') (X.ext qT.mono ac) ((H.trans ac).fz []) aq V λr' q g2 f2 a7 q2=>⟨J.nR ((H.trans ac).aP _) f2.ext (ab (ad _)),ay V _ _ ⟨f2.ext,_,g2,bN,λw b2 t=>?_,?_⟩⟩
   .rcases aU w lk.length with W|W
    .rw[aw W]at t;exact ag w b2 t
    .rw[aG W]at t;have:w -lk.length=0:=by have:=ax t;simp at this;omega
     rw[this]at t;simp at t;subst t;have:w=F:=V;subst this;exact af.1
   .rw[oc,tO,yC,am];have:=af.2;omega
  .have ac:lk.length=x.bF.length:=V;rw[cy V]at an;have W:J M I:=x8.trans H;have U:=B.ext W;have G2:=O.ext fO.mono W;refine⟨s,U.cJ 0,?_⟩;refine(bO (s.az::f.size::j.size::p) (ha.ext C) V).aI (J.aF I) (ab z2) λs' l' af ga g t _=>⟨_,rfl,aK (t.same _ V) _,aK (t.same _ V) _,aK (t.same _ V) _,aK (t.same _ U.lt) _,?_⟩;subst g;intro am;refine Gr.box (g:=[.i 0,.i 0,.i 0,.s .nil,.s .nil]) (L:=[M.size,j.size,T.size,R.size]) (j:=0) (y:=72) (i:=[.s s,.i A]) (w:=⟨x.op,x.bK,x.bW,x.args,lk⟩) fO.mono bh (G2.ext fO.mono t) (((xM.trans W).trans t).fz []) ⟨s',ks,rfl,(ga.done (λd e=>oh (Y d e)) V),mX.le (t.cR _) (X.done qT.mono Y bh (by show lk.length<=_;omega))⟩ V (U.ext t) aH bh ⟨V,aH⟩ (λd e=>by have h1:=t.size;simp at e;omega) λr' m' g' B' f' z' q'=>az V _ ⟨f'.ext,r',_,g',B',bN,wl.y9 (Q.Pg id Q.dU.bW Q.dU.Zl ac ag|>λz=>by rw[P];exact z),?_,?_⟩
   .rw[cF,jY,sB,P];have g:dn (⟨x.op,x.bK,x.bW,x.args,lk⟩:cE)=dn x:=rfl;omega
   .rw[dt,lZ,uC];have h5:(⟨x.op,x.bK,x.bW,x.args,lk⟩:cE).w=1+x.args.length+bw lk:=cE.lg _;omega
 .have aa:l=aC.length:=V;subst aa;rw[gX]at P au;refine⟨s,B.cJ 0,A,B.cJ 1,?_⟩;intro m7;have k:Le (bG (f.size::j.size::p) M) (bG p m7):=cb aH λd e=>ah _ (ah _ e);have t:=O.ne B bh;refine⟨s,.mk u A,rfl,eH.le k (O.ng fO.mono (λe=>?_) bh (by show u.length<=_;omega)),⟨.of wl (by rw[P];exact ai.2),by rw[Bk.qd];omega⟩,y.ai V _ _⟩;rcases List.mem_cons.1 e with g|g
  .exact t g
  .have:=al _ g;omega
def Mq{g:List Nat}{f:E}(X:∀a∈g,a<f.size){v w:O}{r:List bo}(t:dX f v w r c){W:Nat}(hW:W<=200000000000)(hk:uI r c True W):qU 176 [.agg #[O.v v,O.v w]] f g r λI=>uI r I True W:=by
 apply FO;simp -zeta only[aE,aD];intro h a2;let⟨K,F⟩:=dj (a:=h) (c:=a2) rfl rfl;have s1:h.size=f.size+1:=by simp[h]
 clear_value a2;have au:=t.iD.len;have aB:=t.nA;refine(fD (b:=h.size::g) (bQ X K.size (F _ aH)) (t.le K.le).bt t.types).mono λ_ ac⟨ak,s,al,L⟩=>?_;subst s;refine⟨L.da F,_,rfl,?_⟩;intro ae ax aj;have u2:=K.trans L;let⟨x5,B0,g0,s3,s5⟩:=kD (b:=ae.size::h.size::g) iv.mono (d:=ac) (a:=ae) (c:=ax) (h:=aj) rfl rfl rfl;clear_value aj;have H:∀a∈[h.size,f.size],a<ac.size:=λa k=>L.lt (F a k);have Y:∀a∈h.size::g,a<ac.size:=λa k=>L.lt (bQ X K.size (F _ aH) a k);refine kj (R:=λb d M=>∃v w I,Value.agg #[O.v b,O.v d]=.agg #[O.v v,O.v w]/\dX (bG g M) v w r I/\uI r I True W/\J f M) (t:=c.length) (f:=f) (b:=g) iv.mono bh bh X ⟨V,H _ aH⟩ u2 s3 al au V x5 B0 g0 (λaa e=>(pc c)[aa]? =some e.params.length/\e.params.length<=3/\e.df.length<=3/\WB r (pc c) True e.params.length e.body/\e.body.w<=W) (λb o ab p h1 h2 d i j=>⟨b,o,ab,rfl,⟨h1,h2,t.types,V⟩,GY hk.gS d i,j⟩) λaa M st ab az μ am aA N ag P ay=>?_
 let⟨e,Z⟩:=cg c aa am;let⟨ar,ao,aw,hw⟩:=hk.de e (aq Z);have D:=u2.trans N;let⟨aC,aF,b,c1,c2,c3,Q,T,U,z,A⟩:=t.iD.aO Z;have G:∀{x:Value}{b o:Nat},af f b o=some x->af M b o=some x:=λi=>D.af i;refine⟨st,P.cJ 1,V,V,_,G Q,_,G T,_,G U,_,G z,_,G A,V,V,_,G z,_,G A,?_⟩;intro j;have hy:=ag.bg;have ah:=P.lt;have zM:=N.size;have d:J M j:=J.push _ _;have s7:j.size=M.size+1:=by simp[j]
 have an:ap j (.mk M.size 0 0 0) []:=lU _ _ _ _ _ _;clear_value j;have p:∀{x:Value}{b o:Nat},af f b o=some x->af j b o=af M b o:=λi=>by rw[d.af (G i),G i]
 have C:∀{b o:Nat},b<M.size->af j b o=af M b o:=λi=>aK (d.same _ i) _;have B:f.size<M.size:=N.lt (H _ aH);refine⟨p z,p A,C B,C B,C B,p Q,p T,p U,p z,p A,C B,C ah,?_⟩;refine(FL e.body.w e.body (ad _) (st.az::ae.size::h.size::g) j (λa k=>?_) v w b (.mk M.size 0 0 0) [] e.params.length (t.le (D.trans d).le) (c3.le (D.trans d).le) an aw V bN).aI (N.trans d) H λss b' M1 av ai u u1=>⟨_,_,rfl,?_⟩
 .simp only[aV]at k;rcases k with s|s|s|s
  .omega
  .omega
  .have:=Y a (by simp[s]);omega
  .have:=Y a (by simp[s]);omega
 have y:∀{x:Value}{b o:Nat},af f b o=some x->af M1 b o=af j b o:=λi=>by rw[u.af (d.af (G i)),d.af (G i)]
 refine⟨y Q,y T,y U,y z,y A,aK (u.same _ (d.lt B)) _,aK (u.same _ (d.lt ah)) _,?_⟩;exact uY (b:=h.size::g) (v:=ak) (x:=ab) Y (λa k=>by have h1:=H a k;have h2:=u1.size;omega) u1 (ag.ext iv.mono (d.trans u)) (P.ext (d.trans u)) V (c1.ext (D.trans (d.trans u))) (c2.ext (D.trans (d.trans u))) av ⟨V,V⟩ V λs' M' g' B' x'=>ay s' M' _ g' B' x' ⟨Iw (q:=e) Z,ar,ao,ai.1,bH ai.2 hw⟩
end
section
variable{m:E}{t:O}{b:Bk}{a:List Nat}
def QZ(a:Int)(l:List cE):Nat:=l.countP λs=>s.op=a
def XZ:∀l:List cE,QZ 14 l+QZ 15 l<=l.length
 |[]=>by simp[QZ]
 |s::l=>by
  have:=XZ l;simp only[QZ,List.countP_cons,aW]at this⊢;by_cases h:s.op=14
  .simp[h];omega
  .by_cases a:s.op=15
   .simp[a];omega
   .simp[h,a];omega
def Td(a:Int)(l:List cE)(s:cE):QZ a (l++[s])=QZ a l+(if s.op=a then 1 else 0):=by
 simp[QZ,List.countP_append,List.countP_cons]
def HQ(g:eH m t b.aC):rB 274 [.agg #[O.v t,vi b.aR]] m λk=>0<=k/\k<=b.aC.length/\∀(i:Nat)(a:cE),b.aC[i]? =some a->(i:Int)<k->a.op=14\/a.op=15:=by
 apply Ac;simp -zeta only[aE,aD];intro c;have G:J m c:=J.push _ _;have z:∀q∈[m.size],q<c.size:=by simp[c]
 clear_value c;have A:=g.len;refine dZ (n:=b.aC.length) (A▸g.fu) (λk M=>J c M/\∀(i:Nat)(a:cE),b.aC[i]? =some a->i<k->a.op=14\/a.op=15) ⟨J.aF _,λi a _ h=>V⟩ ?_;rintro k M L μ S ⟨o,l⟩ D
 have u:=G.trans o;have R:∀{j:E},J m j->∃f:Int,vi (k:Int)=vi f/\(0<=f/\f<=b.aC.length/\∀(i:Nat)(a:cE),b.aC[i]? =some a->(i:Int)<f->a.op=14\/a.op=15)/\J m j:=λI=>⟨k,rfl,⟨V,V,λi a d h=>l i a d V⟩,I⟩;refine⟨λh=>?_,λh=>R u⟩;simp only[an]at h;let⟨a,d⟩:=cg b.aC k;let⟨p,C,P,T,s,g1,g2,v,w⟩:=g.aO d;refine⟨V,V,_,u.af s,_,u.af g1,_,u.af g2,_,u.af v,_,u.af w,?_⟩;refine(zJ (x:=a) p C M).aI o z λN U y H F=>⟨_,rfl,λB=>D V _ ⟨F,λi K e Q=>?_⟩,λ_=>R (u.trans H)⟩;by_cases r:i=k
 .subst r;rw[d]at e;simp at e;subst e;exact y.1 B
 .exact l i K e V
def wW(L:∀g∈a,g<m.size)(C:eH m t b.aC){d:Nat}(hm:d<=b.aC.length)(e:Int)(K:∀(i:Nat)(s:cE),b.aC[i]? =some s->i<d->0<s.args.length)(hb:b.aC.length<=10^12):
 iU 275 [.agg #[O.v t,vi b.aR],vi d,vi e] m a λl=>(∀y∈l,∃(i:Nat)(s:cE),i<d/\b.aC[i]? =some s/\y∈s.args)/\l.length<=QZ e (b.aC.take d):=by
 apply Bi
 simp -zeta only[aE,aD]
 intro c w
 have z:J m c:=J.push _ _
 have N:∀g∈[m.size],g<c.size:=by simp[c]
 have Q:J c w:=J.push _ _
 have I:GI a c w (.mk c.size 0 0 0) []:=GI.nil a c
 clear_value w
 clear_value c
 have ac:=C.len
 refine dx (n:=d) V (λk s M=>J c M/\∃l,GI a c M s l/\(∀y∈l,∃(i:Nat)(s:cE),i<d/\b.aC[i]? =some s/\y∈s.args)/\l.length<=QZ e (b.aC.take k)) ⟨Q,[],I,aH,aH⟩ ?_
 rintro k s M S μ hk ⟨p,l,q,v,P⟩ E
 have u:=z.trans p
 refine dit (λr=>?_) λr=>?_
 .let⟨x,o⟩:=cg b.aC k
  let⟨U,kk,B,ab,F,W,X,G,Y⟩:=C.aO o
  have Z:=B.len
  have:=K k x o V
  let⟨y,D⟩:=cg x.args 0
  have j:QZ e (b.aC.take (k+1))=QZ e (b.aC.take k)+(if x.op=e then 1 else 0):=by rw[bC o,Td]
  have aa:QZ e (b.aC.take k)<=(b.aC.take k).length:=List.countP_le_length
  have ad:=qe k b.aC
  refine⟨V,V,_,u.af F,λh=>⟨V,V,_,u.af G,bh,V,y,(B.ext u).aO D,?_⟩,λh=>E V _ _ ⟨p,l,q,v,?_⟩⟩
  .intro m3
   simp only[aM]at h
   rw[ak h]at j
   refine GI.ku q (p.fz []) (λg j=>z.lt (L g j)) V λaf T H A _ _=>⟨J.nR (p.aP _) A.ext N,E V _ _ ⟨A.ext,_,H,λR f=>?_,bN⟩⟩
   rcases List.mem_append.1 f with f|f
   .exact v R f
   .simp at f;subst f;exact⟨k,x,V,o,aq D⟩
  .simp only[ao]at h
   rw[ae h]at j;omega
 .have f:k=d:=V
  subst f
  exact⟨s,l,rfl,q.cG (λ_ r=>r) z.size,⟨v,P⟩,u⟩
def Q1:∀{l:List cE},(∀x∈l,dn x=0)->dc l=0
 |[],_=>rfl
 |x::l,h=>by rw[jY,h x aX,Q1 λy a=>h y (ah _ a)]
def Uc:∀{l:List cE},(∀x∈l,2<=x.w)->2*l.length<=sw l
 |[],_=>aH
 |x::l,h=>by
  have b:=h x aX;have c:=Uc λy a=>h y (ah _ a);rw[lZ,aW];omega
def Lh(hS:∀c∈a,c<m.size){X:O}{q:List Int}{ds:List bo}{nr:List Nat}{g:Nat}(o:eH (bG a m) t b.aC)(hf:ap m X q)(bn:q.length<=3)(al:WB ds nr True (g+q.length) b)(hw:b.w<=100000000000)(ha:g<=10^12){h:Int}(hx:0<=h/\h<(g:Int)):
 mP 258 [.agg #[O.v t,vi b.aR],vi h,O.v X,vi g] m a λb'=>WB ds nr True (g+q.length) b'/\b'.w<=b.w+8:=by
 apply DH
 simp -zeta only[aE,aD]
 intro p T
 let⟨B,C⟩:=dj (a:=p) (c:=T) rfl rfl
 have s1:p.size=m.size+1:=by simp[p]
 have s2:T.size=m.size+2:=by simp[T,s1]
 clear_value T
 let⟨am,aM⟩:=al.bB
 have ak:=o.le (bz _ _)
 have bk:=Bk.lg b
 have bu:=fw b.aC
 have aO:=o.len
 have bm:=o.cap
 have bp:=hf.len
 refine(HQ (ak.le B.le)).aI (J.aF T) C λmn m3 a6 x3 _=>⟨_,rfl,?_⟩
 obtain⟨kn,a4⟩:∃kn:Nat,mn=kn:=⟨mn.toNat,V⟩
 subst a4
 have aL:∀(d:Nat)(s:cE),b.aC[d]? =some s->d<kn->s.op=14\/s.op=15:=λd s w aG=>a6.2.2 d s w V
 have aj:∀(d:Nat)(s:cE),b.aC[d]? =some s->d<kn->0<s.args.length:=λd s w aG=>by
  have:=aL d s w aG;have:=(am d s w).dU.ln V;omega
 refine(wW (a:=[]) aH (ak.le (B.trans x3).le) (d:=kn) V 14 aj V).aI x3 C λsd G m4 gd hd x4 v4=>⟨_,rfl,?_⟩
 refine(wW (a:=[]) aH (ak.le (B.trans v4).le) (d:=kn) V 15 aj V).aI v4 C λsr Q m5 gr hr x5 v5=>⟨_,rfl,?_⟩
 have bl:=XZ (b.aC.take kn)
 have bw:(b.aC.take kn).length=kn:=bN
 have aN:ap m5 sr Q:=(gr.done aH V).le (bz _ _)
 refine(dg aN h).aI v5 C λbi m6 bj x6 A=>⟨_,rfl,λ_=>⟨t,b,rfl,o.le (((B.trans A).ai V _ _).cR _),⟨al,V⟩,(B.trans A).ai V _ _⟩,λbq=>⟨λ_=>⟨t,b,rfl,o.le (((B.trans A).ai V _ _).cR _),⟨al,V⟩,(B.trans A).ai V _ _⟩,λa7=>?_⟩⟩
 have br:0<q.length:=by simp only[ao]at a7;omega
 have aI:∀s∈b.aC.take kn,∃d:Nat,d<kn/\b.aC[d]? =some s:=λs o=>by
  let⟨d,w⟩:=List.mem_iff_getElem?.1 o;have:=ax w;rw[dy V]at w;exact⟨d,V,w⟩
 have aC:dc (b.aC.take kn)=0:=Q1 λs o=>by
  let⟨d,Z,L⟩:=aI s o;have:=aL d s L Z;exact ae λY:oG s.op=>by have:=Y.2;omega
 have bt:2*kn<=sw (b.aC.take kn):=by
  have:=Uc (l:=b.aC.take kn) λs o=>by
   let⟨d,Z,L⟩:=aI s o;have:=aj d s L Z;have:=cE.lg s;omega
  omega
 have bv:sw b.aC=sw (b.aC.take kn)+sw (b.aC.drop kn):=by rw[<-dt,dw]
 have a1:dc b.aC=dc (b.aC.take kn)+dc (b.aC.drop kn):=by rw[<-cF,dw]
 have Xv:∀y:Int,(∃(d:Nat)(s:cE),d<kn/\b.aC[d]? =some s/\y∈s.args)->0<=y/\y<((g+q.length:Nat):Int):=λy⟨d,s,Z,L,h3⟩=>by
  have h4:=(am d s L).dU.args y h3;have h5:=Te (b.aC.take kn) d;rw[LD,jt V]at h5;omega
 refine(rI (S:=[]) aH ((aN.ext x6).le (yS _)) h V).aI A C λbd a_ m8 aB aJ x8 v8=>⟨_,rfl,?_⟩
 have y2:=aB.bg
 have bV:=x8.size
 have a8:ap (bG [bd.az] m8) sd G:=((gd.done aH V).le (bz _ _)).le (((x5.trans x6).le.trans (yS m6)).trans (x8.bG λc e=>Or.inr (by simp at e;omega)))
 refine vS (n:=q.length) V (λk sd sr M=>J m6 M/\∃G Q,ap (bG [sr.az] M) sd G/\GI [] m6 M sr Q/\(∀y∈G,0<=y/\y<((g+q.length:Nat):Int))/\G.length<=QZ 14 (b.aC.take kn)/\(∀y∈Q,0<=y/\y<((g+q.length:Nat):Int))/\Q.length<=QZ 15 (b.aC.take kn)+k) ⟨x8,G,a_,a8,aB,λy P=>Xv y (hd.1 y P),hd.2,λy P=>Xv y (hr.1 y (aJ.1 y P)),Pk aJ.2 hr.2⟩ ?_
 rintro k H D u av μ hk ⟨I,ac,R,N,K,aa,aF,ab,bs⟩ aq
 have U:=(B.trans A).trans I
 have y3:=K.bg
 have r:∀c∈[p.size,m.size],c<u.size:=λc e=>I.lt (A.lt (C c e))
 refine⟨λY=>?_,λY=>?_⟩
 .simp only[an]at Y
  let⟨y,P⟩:=cg q k
  have ew:cQ ((g:Int)+(k:Int))=(g:Int)+k:=aQ V V
  rw[ew]
  have ai:∀{M:E},J u M->af M X.az (X.off+Int.toNat (k:Int)*1)=some (vi y):=λv=>(hf.ext (U.trans v)).aO P
  have az:∀{M:E},J u M->av H D (cQ ((k:Int)+1)) M/\μ H D (cQ ((k:Int)+1)) M<μ H D k u:=λv=>aq V _ _ _ ⟨I.trans v,ac,R,N.le (v.cR _),K.ext v,aa,aF,ab,V⟩
  have NQ:∀{M:E},J u M->jb (M.push (.cells (bD [.i ((g:Int)+k)]) ay)) ay [.i 0] 8 D (.mk M.size 0 1 1) λau W=>eG [p.size,m.size] (M.push (.cells (bD [.i ((g:Int)+k)]) ay)) W/\av H au (cQ ((k:Int)+1)) W/\μ H au (cQ ((k:Int)+1)) W<μ H D k u:=λ{M} v=>by
   refine GI.ku (K.ext v) ((I.trans v).fz []) aH V λau W g' f' z' q'=>⟨J.nR ((I.trans v).aP _) f'.ext (λc e=>A.lt (C c e)),aq V _ _ _ ⟨f'.ext,ac,_,(N.le (v.cR _)).le (oR λc e hn=>?_),g',aa,aF,λag z=>?_,bN⟩⟩
   .simp at hn;refine⟨?_,q' c e hn⟩;simp;rcases z'.2 with f|f<;>omega
   .rcases List.mem_append.1 z with z|z
    .exact ab ag z
    .simp at z;omega
  refine⟨V,V,y,ai (J.aF _),λ_=>?_,λ_=>⟨V,V,y,ai (J.aF _),λ_=>?_,λ_=>az (J.aF _)⟩⟩
  .refine(dg (N.le (bz _ _)) _).aI (J.aF u) r λbb aS _ F _=>⟨_,rfl,λ_=>?_,λ_=>⟨V,V,y,ai F,λ_=>?_,λ_=>az F⟩⟩
   .refine(rI (S:=[D.az]) (by have:=F.size;simp;omega) (N.le (F.cR _)) _ V).aI F r λaT aR aw aP ar aU aA=>⟨_,rfl,aq V _ _ _ ⟨I.trans aA,aR,R,aP.done (by have:=F.size;simp;omega) (oh ar.2),K.ext aA,λag z=>aa ag (ar.1 ag z),oh ar.2,ab,V⟩⟩
   .intro aw
    exact NQ F
  .intro aw
   exact NQ (J.aF _)
 .have a9:ap u D R:=(K.done aH V).le (bz _ _)
  have F:∀{M:E},u.size<=M.size->∀c∈p.size::a,c<M.size:=λz c e=>by
   rcases List.mem_cons.1 e with f|f
   .have:=r p.size aH;omega
   .have:=hS c f;have:=U.size;omega
  refine(eM (c:=p.size::a) (F (ad _)) 14 (N.le (bz _ _)) V).aI (J.aF u) r λba bA bC aw aW ai _=>⟨_,rfl,?_⟩
  subst aW
  have bR:=aw.bg
  have bf:=ai.size
  refine(iK (c:=ba.az::p.size::a) (λc e=>?_) 16 h).mono λbQ bE⟨bg,bx,f,a0,a3,ar⟩=>⟨λc e=>ar.same c (ai.lt (r c e)),_,_,_,_,_,f,?_⟩
  .rcases List.mem_cons.1 e with f|f
   .omega
   .exact F bf c f
  intro bF
  have au:=ai.trans ar
  refine GS.ku (x:=eO 16 h) (aw.ext fO.mono ar) (au.fz []) a0 a3 bN λbb bH az P bW bL=>⟨J.nR (au.aP _) P.ext r,?_⟩
  have bS:=az.bg
  have bU:=au.size
  have aT:=P.size
  refine(eM (c:=bb.az::p.size::a) (λc e=>?_) 15 (a9.ext P.ext) V).aI P.ext r λbP bB bI aY aX be aS=>⟨_,rfl,?_⟩
  .rcases List.mem_cons.1 e with f|f
   .omega
   .exact F aT c f
  subst aX
  refine GS.all (az.ext fO.mono be) (aS.fz []) (aY.done fO.mono (λc e=>?_) bh bN) bN λaR aP aA v bX bM=>⟨J.nR aS v.ext r,V,V,V,?_⟩
  .rcases List.mem_cons.1 e with f|f
   .omega
   .exact F aT c f
  have bT:=aA.bg
  have z9:=U.size
  have a5:Le (bG a m) (bG (aR.az::p.size::a) aP):=(U.trans v.ext).bG λc e=>by
   simp only[aV]at e;rcases e with f|f|f
   .exact Or.inr V
   .exact Or.inr V
   .exact Or.inl f
  have ek:Int.toNat (kn:Int)=kn:=V
  have el:Int.toNat (t.len:Int)=t.len:=V
  rw[ek,el]
  have a2:eH (bG (aR.az::p.size::a) aP) (t.cut kn t.len 5) (b.aC.drop kn):=by
   have:=(o.le a5).J4 (i:=kn) (j:=t.len) V V;rwa[aO,cy (ad _),<-aO]at this
  refine GS.all aA v a2 bN λbc bJ aZ ag bY bO=>⟨J.nR v.ext ag.ext r,aK (by rw[ag.ext.same _ (r _ aH),v.ext.same _ (r _ aH)]) _,?_⟩
  intro bK
  have aU:=aZ.done fO.mono (F (ad _)) bh bN
  have W:dc [eO 16 h]=0:=jH bh [h]
  have e2:sw [eO 16 h]=2:=nI 16 [h]
  have W1:WL ds nr True (g+q.length) (ac.map (eO 14)++[eO 16 h]++R.map (eO 15)++b.aC.drop kn):=by
   refine WL.append (WL.append ((qY bh aa).y9 ?_) ?_) ?_
   .rw[jH bh];exact CR bh ⟨hx.1,V⟩
   .rw[cF,jH bh,W];exact qY bh ab
   .rw[cF,cF,jH bh,jH bh,W];have:=am.drop kn;rwa[aC]at this
  refine⟨bc,.mk (ac.map (eO 14)++[eO 16 h]++R.map (eO 15)++b.aC.drop kn) b.aR,rfl,eH.le (cb aH λc e=>ah _ e) aU,⟨.of W1 ?_,?_⟩,(U.trans ag.ext).ai V _ _⟩
  .rw[cF,cF,cF,jH bh,jH bh,W]
   rw[a1,aC]at aM
   simpa using aM
  .rw[Bk.qd,dt,dt,dt,nI,nI,e2];omega
end
def ZF(c:List bo)(d:List eP)(b:Bk):Prop:=∀(S:List Nat)(m:E),(∀a∈S,a<m.size)->∀(f r t:O)(a:Nat),dX m f r c d->eH m t b.aC->WB c (pc d) True a b->a+4*b.w<=10^12->9*b.w<=100000000000->
 mP 232 [.agg #[O.v f,O.v r],.agg #[O.v t,vi b.aR],vi a] m S λe=>WB c (pc d) True a e/\e.w+8<=9*b.w
def Cd{z:List bo}{rs:List eP}:∀B:Bk,ZF z rs B:=by
 refine Bk.ind ?_;intro aC X ih p ac hS aS a6 bW q I hs bk bx bA;have a1:=bk.bB;rw[Bk.qd]at*;simp only[Bk.jG,Bk.iZ]at*;apply vD;simp -zeta only[aE,aD];intro ag j t g m5 m6;let⟨x3,hl,s1,s2,s3⟩:=pK (a:=ag) (b:=j) (c:=t) rfl rfl rfl;have s4:g.size=t.size+1:=by simp[g]
 have a8:J g m6:=(J.push g _).ai (ad _) _ _;have bq:J t m6:=(J.push t _).trans a8;have g0:GS (g.size::j.size::p) t m6 (.mk t.size 0 0 0) []:=(GS.new _ t).ext fO.mono a8;have B0:cz m6 g.size cY [.s (.mk t.size 0 0 0),.i X]:=cz.ai (m:=m5) (o:=0) (r:=[.s (.mk t.size 0 0 0),.i X]) (cz.push g _ _);have a_:∀d∈j.size::p,d<t.size:=bQ hS x3.size (hl _ aH);clear_value m6;clear_value t;have be:=hs.len;have bg:=Au aC;have bL:=fw aC;refine dx (n:=aC.length) (be▸hs.fu) (λk(v:Int) M=>v=((q+dc (aC.take k):Nat):Int)/\J t M/\∃s w,GS (g.size::j.size::p) t M s w/\cz M g.size cY [.s s,.i X]/\w.length=k/\WL z (pc rs) True q w/\dc w=dc (aC.take k)/\sw w<=9*sw (aC.take k)) ⟨aH,bq,_,[],g0,B0,rfl,WL.nil _ _ _ _,aH,aH⟩ ?_;rintro k v0 M aR μ hk ⟨bj,xM,s,w,am,Z,bH,wl,au,bi⟩ a5
 subst bj;have v:=x3.trans xM;have hy:=am.bg;have zM:=xM.size;have bt:=Z.lt;refine dit (λan=>?_) λan=>?_
 .let⟨c,P⟩:=cg aC k;let⟨pa,pk,ha,aJ,e0,e1,e2,e3,e4⟩:=hs.aO P;have bR:=Oj P;have bT:=cE.lg c;have bB:=pL c.bF;have bS:=pt P;have bP:=ql P;have N:=a1.1 k c P;have bE:=pM (aC.take k);have bK:=fw (aC.take k);have bM:=bg (k+1);refine⟨V,V,_,v.af e0,_,v.af e1,_,v.af e2,_,v.af e3,_,v.af e4,?_⟩;intro m7 l R;have x8:J M l:=(J.push M _).ai (ad _) _ _;have s8:l.size=M.size+1:=by simp[l,m7,aA]
  have x9:J l R:=J.push _ _;have s9:R.size=l.size+1:=by simp[R]
  have a9:GB (s.az::g.size::j.size::p) l R (.mk l.size 0 0 0) []:=GB.new _ l;clear_value R;clear_value l;have aF:∀d∈s.az::g.size::j.size::p,d<l.size:=λd h=>by
   simp only[aV]at h;rcases h with e|e|e|e
   .omega
   .omega
   .omega
   .have:=hS d e;omega
  have aL:=aJ.len;have D:∀{f:E},l.size<=f.size->∀d∈[M.size,j.size,ag.size,ac.size],d<f.size:=λan d h=>by simp at h;omega
  have z9:R.size=l.size+1:=s9;refine(gQ (e:=[l.size]) bN (I.bt.le (v.trans (x8.trans x9)).le) I.types c.bK).aI (J.aF R) (D x9.size) λsc lc bU aY e a7 _=>⟨_,rfl,?_⟩;subst e;have bI:=aY.len;refine dx (n:=c.bF.length) (aL▸aJ.fu) (λu ks f=>J l f/\ap (bG [ks.az] f) sc (bY z c.bK)/\∃lk,GB (s.az::g.size::j.size::p) l f ks lk/\lk.length=u/\(∀(Q:Nat)(B:Bk),lk[Q]? =some B->WB z (pc rs) True (q+dc (aC.take k)+AE z c.op c.bK Q) B)/\bw lk<=9*bw (c.bF.take u)) ⟨x9.trans a7,aY,[],a9.ext qT.mono a7,rfl,aH,aH⟩ ?_;rintro u ks A I2 μ2 hj ⟨aj,aZ,lk,gk,bF,aW,bd⟩ bn;have F:J ac A:=v.trans (x8.trans aj);have yk:=gk.bg;have T:=aj.size;refine dit (λh2=>?_) λh2=>?_
  .let⟨B,U⟩:=cg c.bF u;let⟨tb,a0,f0,f1⟩:=aJ.aO U;have bC:=uj U;have bb:=tP U;have ar:=N.bF u B U;have h3:=OU I.types c.op c.bK u;have aB:∀{f:E},J A f->∀d∈ks.az::s.az::g.size::j.size::p,d<f.size:=λxx d h=>by
    have:=xx.size;rcases List.mem_cons.1 h with e|e
    .omega
    .have:=aF d e;omega
   have al:∀{f:E}{Y:O}{C:Bk},J A f->eH (bG (ks.az::s.az::g.size::j.size::p) f) Y C.aC->WB z (pc rs) True (q+dc (aC.take k)+AE z c.op c.bK u) C->C.w<=9*B.w->
    jb (f.push (.cells (bD [.s Y,.i C.aR]) cY)) cY [.s .nil,.i 0] 32 ks (.mk f.size 0 1 1) λW M3=>eG [M.size,j.size,ag.size,ac.size] (f.push (.cells (bD [.s Y,.i C.aR]) cY)) M3/\I2 W (cQ ((u:Int)+1)) M3/\μ2 W (cQ ((u:Int)+1)) M3<μ2 ks u A:=λ{f Y C} x11 ab hwb' hw'=>by
    refine GB.ku (c:=C) (gk.ext qT.mono x11) ((aj.trans x11).fz []) ab V λW M3 g2 f2 br q2=>⟨J.nR ((aj.trans x11).aP _) f2.ext (D (ad _)),bn V _ _ ⟨f2.ext,(aZ.le (x11.cR _)).le (oR λd h aX=>?_),_,g2,bN,λQ b2 H=>?_,?_⟩⟩
    .simp at aX
     refine⟨?_,q2 d h aX⟩
     simp
     rcases br.2 with e|e<;>omega
    .rcases aU Q lk.length with y|y
     .rw[aw y]at H;exact aW Q b2 H
     .rw[aG y]at H
      have:Q -lk.length=0:=by have:=ax H;simp at this;omega
      rw[this]at H;simp at H;subst H
      have:Q=u:=V
      subst this;exact hwb'
    .rw[oc,tO,yC,bb]
     omega
   refine⟨λG=>?_,λG=>?_⟩
   .simp only[aM]at G;obtain⟨bv,_⟩:=N.dU.all G;have bs:=N.dU.ln (Or.inr (Or.inr G));let⟨aP,a2⟩:=cg c.args 0;let⟨y0,y1⟩:=N.dU.args aP (aq a2);have bu:=ha.len;let⟨cn,aT⟩:=cg (bY z c.bK) u;refine⟨V,V,cn,(aZ.le (bz _ _)).aO aT,?_⟩;refine(dC (e:=[]) aH (I.bt.le (F.le.trans (yS _))) I.types cn).aI (J.aF A) (D T) λsf lf a3 av e ay _=>⟨_,rfl,?_⟩;subst e;have av:=av.le (bz _ _);have bJ:=av.len;have aa:=F.trans ay;rw[JU G aT]at ar h3 al;have az:af a3 pa.az (pa.off+Int.toNat (0:Int)*1)=some (vi aP):=(ha.ext aa).aO a2;refine⟨V,V,_,aa.af f0,_,aa.af f1,bh,V,aP,az,?_⟩;have ew:cQ (((q+dc (aC.take k):Nat):Int)+(sf.len:Int))=((q+dc (aC.take k)+(bZ z cn).length:Nat):Int):=by rw[aQ V V];omega
    rw[ew];refine(ih c (aq P) B (aq U) (ks.az::s.az::g.size::j.size::p) a3 (aB ay) aS a6 tb _ (I.le aa.le) (a0.le aa.le) ar V V).aI ay (D T) λY C bl ab aI ai aO=>⟨_,_,rfl,?_⟩;refine⟨by rw[ai.af az,az],aK (ai.same _ (ay.lt (D T _ aH))) _,?_⟩;refine(Lh (a:=ks.az::s.az::g.size::j.size::p) (aB aO) ab (av.ext ai) V aI.1 V V ⟨y0,y1⟩).aI aO (D T) λbV b2 a4 bf ba y bp=>⟨_,_,rfl,?_⟩;intro bm;exact al bp bf ba.1 V
   .simp only[ao]at G;rw[JV G]at ar al;refine⟨V,V,_,F.af f0,_,F.af f1,?_⟩;refine(ih c (aq P) B (aq U) (ks.az::s.az::g.size::j.size::p) A (aB (J.aF _)) aS a6 tb _ (I.le F.le) (a0.le F.le) ar V V).aI (J.aF A) (D T) λY C bl ab aI ai aO=>⟨_,_,rfl,?_⟩;intro a4;exact al ai ab aI.1 V
  .have ar:lk.length=c.bF.length:=V;rw[cy V]at bd;have U:J M A:=x8.trans aj;have H:=Z.ext U;have G2:=am.ext fO.mono U;refine⟨s,H.cJ 0,?_⟩;refine(bO (s.az::g.size::j.size::p) (ha.ext F) V).aI (J.aF A) (D T) λs' l' a4 ga e y _=>⟨_,rfl,aK (y.same _ V) _,aK (y.same _ V) _,aK (y.same _ V) _,aK (y.same _ H.lt) _,?_⟩;subst e;intro bm;refine Gr.box (g:=[.i 0,.i 0,.i 0,.s .nil,.s .nil]) (K:=λf=>aN cq 109 [vi c.op] f λv G=>eG [M.size,j.size,ag.size,ac.size] f G/\∃C:Bool,v=vb C/\
    (C=true->aR (cQ (((q+dc (aC.take k):Nat):Int)+1)) (cQ ((k:Int)+1)) G/\μ (cQ (((q+dc (aC.take k):Nat):Int)+1)) (cQ ((k:Int)+1)) G<μ ((q+dc (aC.take k):Nat):Int) (k:Int) M)/\
    (C=false->aR ((q+dc (aC.take k):Nat):Int) (cQ ((k:Int)+1)) G/\μ ((q+dc (aC.take k):Nat):Int) (cQ ((k:Int)+1)) G<μ ((q+dc (aC.take k):Nat):Int) (k:Int) M)) (L:=[M.size,j.size,ag.size,ac.size]) (j:=0) (y:=72) (i:=[.s s,.i X]) (w:=⟨c.op,c.bK,c.bW,c.args,lk⟩) fO.mono bh (G2.ext fO.mono y) (((xM.trans U).trans y).fz []) ⟨s',ks,rfl,(ga.done (λd h=>oh (aF d h)) V),mX.le (y.cR _) (gk.done qT.mono aF bh (by show lk.length<=_;omega))⟩ V (H.ext y) aH bh ⟨V,aH⟩ (λd h=>by have C:=y.size;simp at h;omega) λW m' g' Y f' z' q'=>?_
   have W':WL z (pc rs) True q (w++[⟨c.op,c.bK,c.bW,c.args,lk⟩]):=wl.y9 (N.Pg id N.dU.bW N.dU.Zl ar aW|>λan=>by rw[au];exact an);have av:=y.size;refine(jy c.op m').mono λv G⟨bb,e,al,C⟩=>⟨λd h=>C.same d (oh (D T d h)),bb,e,?_⟩;have ab:=sC c bb al;have aa:dc (w++[⟨c.op,c.bK,c.bW,c.args,lk⟩])=dc (aC.take (k+1)):=by
    rw[cF,jY,sB,au];have e:dn (⟨c.op,c.bK,c.bW,c.args,lk⟩:cE)=dn c:=rfl;omega
   have ai:sw (w++[⟨c.op,c.bK,c.bW,c.args,lk⟩])<=9*sw (aC.take (k+1)):=by
    rw[dt,lZ,uC];have h5:(⟨c.op,c.bK,c.bW,c.args,lk⟩:cE).w=1+c.args.length+bw lk:=cE.lg _;omega
   refine⟨λht=>?_,λhf=>?_⟩
   .rw[ak ht]at ab;rw[aQ (b:=((q+dc (aC.take k):Nat):Int)+1) V V];exact a5 V _ _ ⟨V,f'.ext.trans C,W,_,g'.ext fO.mono C,Y.ext C,bN,W',aa,ai⟩
   .rw[ae (by simp[hf])]at ab;exact a5 V _ _ ⟨V,f'.ext.trans C,W,_,g'.ext fO.mono C,Y.ext C,bN,W',aa,ai⟩
 .have aL:k=aC.length:=V;subst aL;rw[gX]at au bi;refine⟨s,Z.cJ 0,X,Z.cJ 1,?_⟩;intro m7;have c:Le (bG (g.size::j.size::p) M) (bG p m7):=cb aH λd h=>ah _ (ah _ h);have f:=am.ne Z bh;refine⟨s,.mk w X,rfl,eH.le c (am.ng fO.mono (λh=>?_) bh (by show w.length<=_;omega)),⟨.of wl (by rw[au];exact a1.2),by rw[Bk.qd];omega⟩,v.ai V _ _⟩;rcases List.mem_cons.1 h with e|e
  .exact f e
  .have:=a_ _ e;omega
def DO{f:List Nat}{g:E}(D:∀c∈f,c<g.size){k r:O}{i:List bo}{p:List eP}(j:dX g k r i p){W:Nat}(hW:9*W<=100000000000)(hk:uI i p True W):qU 175 [.agg #[O.v k,O.v r]] g f i λv=>uI i v True (9*W):=by
 apply wH;simp -zeta only[aE,aD];intro d a2;let⟨z,u⟩:=dj (a:=d) (c:=a2) rfl rfl;have s1:d.size=g.size+1:=by simp[d]
 clear_value a2;have am:=j.iD.len;have az:=j.nA;refine(fD (b:=d.size::f) (bQ D z.size (u _ aH)) (j.le z.le).bt j.types).mono λ_ N⟨ae,e,ai,A⟩=>?_;subst e;refine⟨A.da u,_,rfl,?_⟩;intro P ap ab;have u2:=z.trans A;let⟨x5,B0,g0,s3,s5⟩:=kD (b:=P.size::d.size::f) iv.mono (d:=N) (a:=P) (c:=ap) (h:=ab) rfl rfl rfl;clear_value ab;have H:∀c∈[d.size,g.size],c<N.size:=λc a=>A.lt (u c a);have F:∀c∈d.size::f,c<N.size:=λc a=>A.lt (bQ D z.size (u _ aH) c a);refine kj (R:=λb h M=>∃k r v,Value.agg #[O.v b,O.v h]=.agg #[O.v k,O.v r]/\dX (bG f M) k r i v/\uI i v True (9*W)/\J g M) (t:=p.length) (f:=g) (b:=f) iv.mono bh bh D ⟨V,H _ aH⟩ u2 s3 ai am V x5 B0 g0 (λK b=>(pc p)[K]? =some b.params.length/\b.params.length<=3/\b.df.length<=3/\WB i (pc p) True b.params.length b.body/\b.body.w<=9*W) (λh x L y Y t o s w=>⟨h,x,L,rfl,⟨Y,t,j.types,V⟩,GY hk.gS o s,w⟩) λK M st L av μ aj ax T X B ar=>?_
 let⟨b,I⟩:=cg p K aj;let⟨al,ak,ao,hw⟩:=hk.de b (aq I);have w:=u2.trans T;let⟨au,aB,s,U,c2,c3,e0,e1,e2,e3,e4⟩:=j.iD.aO I;have G:∀{ac:Value}{s o:Nat},af g s o=some ac->af M s o=some ac:=λah=>w.af ah;refine⟨V,V,_,G e0,_,G e1,_,G e2,_,G e3,_,G e4,?_⟩;intro m7 h;have hy:=X.bg;have aw:=B.lt;have zM:=T.size;have Q:J M h:=(J.push M _).ai (ad _) _ _;have s8:h.size=M.size+1:=by simp[h,m7,aA]
 clear_value h;have aa:∀c∈[M.size,d.size,g.size],c<h.size:=λc a=>by
  rcases List.mem_cons.1 a with e|e
  .omega
  .have:=H c e;omega
 have w8:=w.trans Q;have ay:=U.len;have ag:(au.len:Int)=(b.params.length:Nat):=V;refine⟨st,(B.ext Q).cJ 1,?_⟩;rw[ag];refine(Cd b.body (st.az::P.size::d.size::f) h (λc a=>?_) k r s b.params.length (j.le w8.le) (c3.le w8.le) ao V V).aI (J.aF h) aa λss b' M1 an Z y _=>⟨_,_,rfl,?_⟩
 .simp only[aV]at a;rcases a with e|e|e|e
  .omega
  .omega
  .have:=F c (by simp[e]);omega
  .have:=F c (by simp[e]);omega
 have C:∀o,af M1 M.size o=af h M.size o:=λo=>aK (y.same _ V) o;refine⟨C 0,C 1,C 2,C 3,C 4,aK (y.same _ V) _,?_⟩;have x:=Q.trans y;have z1:=y.size;exact uY (b:=d.size::f) (v:=ae) (x:=L) F (λc a=>by have Y:=aa c a;have t:=H c;simp only[aV]at a t;rcases a with e|e|e|e<;>first|omega|(have:=t (by simp[e]);omega)|simp at e) (T.trans x) (X.ext iv.mono x) (B.ext x) V (U.ext (w.trans x)) (c2.ext (w.trans x)) an ⟨V,V⟩ V λs' Y g' t x'=>ar s' Y _ g' t x' ⟨Iw (q:=b) I,al,ak,Z.1,by have:=Z.2;show b'.w<=_;omega⟩
end Go.Proofs.YtdalfjkmdekijaaGreat
