/- Part of a proof. -/
import Derived.Test.YtkicoahejfbjhaaGreatSA11
import Derived.Test.YtkicoahejfbjhaaGreatSA12
import Derived.Test.YtkicoahejfbjhaaGreatSA13
set_option linter.all false
set_option maxHeartbeats 8000000
set_option maxRecDepth 100000
namespace Go.Proofs.YtkicoahejfbjhaaGreat
open Go.Vc
def IA{t:List Nat}{w:E}(hS:∀d∈t,d<w.size){U ak:O}{N:List bz}{P:List (dy×Ex)}(hd:cw w U N)(hp:WH w ak P)(aa:WJ N P):uP 238 [.agg #[O.v U,O.v ak]] w t N λrs=>yi N rs False 95:=by
 apply A2;simp -zeta only[aC,aB];have ht:=sV aa.gp.ds;intro h a2;let⟨L,hl⟩:=dD (a:=h) (c:=a2) rfl rfl;have s1:h.size=w.size+1:=by simp[h]
 clear_value a2;have aO:=hp.len;have aZ:P.length<=4:=by have:=aa.gp.oA;simpa using this
 have aY:0<P.length:=by have:=aa.gp.iV;simpa using this
 refine(fU (b:=h.size::t) (bO hS L.size (hl _ aL)) (hd.le L.le) ht).mono λ_ av⟨dd,e,aK,x3⟩=>?_;subst e;refine⟨x3.dv hl,_,rfl,?_⟩;intro k aS aF;have u2:=L.trans x3;let⟨x5,B0,g0,s3,s5⟩:=kW (b:=k.size::h.size::t) iQ.mono (d:=av) (a:=k) (c:=aS) (h:=aF) rfl rfl rfl;clear_value aF;have ag:∀d∈[h.size,w.size],d<av.size:=λd g=>x3.lt (hl d g);have aD:∀d∈h.size::t,d<av.size:=λd g=>x3.lt (bO hS L.size (hl _ aL) d g);refine kQ (R:=λb c C=>∃U T rs,Value.agg #[O.v b,O.v c]=.agg #[O.v U,O.v T]/\eK (bG t C) U T N rs/\yi N rs False 95/\J w C) (r:=P.length) (f:=w) (b:=t) iQ.mono bh bh hS ⟨V,ag _ aL⟩ u2 s3 aK aO V x5 B0 g0 (λ_ q=>q.params.length<=3/\q.cR.length<=3/\WB N P.length False q.params.length q.body/\q.body.w<=95) (λb s l' m' h1 h2 c f j=>⟨b,s,l',rfl,⟨h1,h2,ht,V⟩,⟨V,λq hq=>by obtain⟨p,l⟩:=List.mem_iff_getElem?.1 hq;rw[c];exact f p q l⟩,j⟩) λab C y l' aI μ aM aW xM az al aT=>?_
 let⟨q,hq⟩:=cG P ab aM;let⟨aR,aX⟩:=aa.ur q (aq hq);have aP:q.1.params.length<=3:=(wG _ (aa.gp.dz q.1 (List.mem_map.2 ⟨q,aq hq,rfl⟩))).1;have X:=u2.trans xM;obtain⟨cs,⟨ao,aH,rfl,ha,hk⟩,hr⟩:=hp.iA ab q hq;have aE:=ha.len;refine⟨V,V,_,X.af (hr 0 _ rfl),_,X.af (hr 1 _ rfl),_,X.af (hr 2 _ rfl),_,X.af (hr 3 _ rfl),_,X.af (hr 4 _ rfl),?_⟩;intro m7 l;have hy:=az.bn;have aU:=al.lt;have zM:=xM.size;obtain⟨x8,-,s8⟩:=kE (M:=C) (d:=m7) (c:=l) rfl rfl rfl;clear_value l;have W:∀d∈[C.size,h.size,w.size],d<l.size:=λd g=>by
  rcases List.mem_cons.1 g with e|e
  .omega
  .have:=ag d e;omega
 have w8:=X.trans x8;have ac:∀{s:E},l.size<=s.size->∀d∈y.D::k.size::h.size::t,d<s.size:=λaA d g=>by
  simp only[aV]at g;rcases g with e|e|e|e
  .omega
  .omega
  .have:=aD d (by simp[e]);omega
  .have:=aD d (by simp[e]);omega
 have hm:=u2.size;have aG:∀{s:E},J l s->∀{an:Value->E->Prop},(∀H F f,ap f H F->F.length=q.1.params.length->(∀b∈F,0<=b/\b<(q.1.params.length:Int))->J s f->an (O.v H) f)->aN cg 205 [vi 0,vi (ao.len:Int)] s an:=λ{s} x an hk'=>by
  rw[aE];exact(lV (S:=[]) (d:=s) aL 0 q.1.params.length V).mono λax f⟨H,F,e,gn,qn,xn⟩=>by
   subst e;exact hk' H F f ((GI.done gn aL V).le (bA _ _)) qn.2 (λb hy=>oh (qn.1 b hy)) xn
 have gF:∀{s:E}{ay:List Nat}{H:O}{F:List Int},(∀d∈ay,d<s.size)->J l s->ap s H F->F.length=q.1.params.length->(∀b∈F,0<=b/\b<(q.1.params.length:Int))->ns 251 [.agg #[O.v U,O.v ak],.agg #[vi q.2.op,vi q.2.bP,O.v aH],O.v H,vi (ao.len:Int)] s ay λI=>WB N P.length False q.1.params.length I/\I.w<=3*q.2.n:=λaJ x Y h1 h2=>by
  rw[aE];exact Dp (TP q.2) _ _ q.1.params.length _ _ U ak aH aJ Y h2 (by rw[h1];exact aR) V V (hd.le (w8.trans x).le) ht (fF.le (w8.trans x).le hk)
 have G:∀{v f:E}{I Z:Nat},l.size<=v.size->J v f->I<l.size->af f I Z=af v I Z:=λaA x hb=>gl x V _;have j:C.size<l.size:=V;have K:w.size<l.size:=W _ aL;refine⟨λI s=>∃p D,I.2=0/\l.size<=I.1/\cE s I.1 di [.s p,.i D.aS]/\eO (bG (y.D::k.size::h.size::t) s) p D.aD/\(WB N P.length False q.1.params.length D/\D.w<=3*q.2.n)/\J l s,⟨?_,?_⟩,?_⟩
 .refine aG (J.az l) λH F B Y ae aj b=>⟨b.dv W,H,rfl,G (ad _) b j,G (ad _) b j,G (ad _) b j,G (ad _) b K,G (ad _) b K,?_,?_⟩;all_goals have u:=b.size
  .refine(gF (ay:=y.D::k.size::h.size::t) (ac u) b Y ae aj).mono λax A⟨p,D,e,aw,aQ,c⟩=>⟨c.dv λd g=>b.lt (W d g),p,_,e,?_⟩;have vu:=c.size;intro Q;have z:J A Q:=J.push _ _;refine⟨G V z j,G V z j,G V z j,G V z K,G V z K,?_⟩;intro au;let⟨am,ar,a0⟩:=kE (M:=A) (d:=Q) (c:=au) rfl rfl rfl;exact⟨p,D,rfl,by show l.size<=A.size;omega,ar,eO.le (am.df _) aw,aQ,(b.trans c).trans am⟩
  .intro A;have c:J B A:=J.push _ _;have am:cE A B.size di [.s .nil,.i 0]:=cE.push _ _ _;have vu:=c.size;clear_value A;refine⟨G u c j,G u c j,G u c j,G u c K,G u c K,?_⟩;refine(gF (ay:=B.size::y.D::k.size::h.size::t) (bO (ac u) vu am.lt) (b.trans c) (Y.ext c) ae aj).mono λax Q⟨p,D,e,ar,aw,z⟩=>⟨z.dv λd g=>?_,p,_,e,?_⟩
   .rcases List.mem_cons.1 g with e|e
    .rw[e];exact am.lt
    .have:=W d e;omega
   intro au;exact⟨p,D,rfl,u,cE.ah (m:=Q) (o:=0) (r:=[.s p,.i D.aS]) (am.ext z),eO.le (cA aL λd g=>ai _ g) ar,aw,((b.trans c).trans z).ah u _ _⟩
 .intro B;have b:J l B:=J.push _ _;have B9:cE B l.size di [.s .nil,.i 0]:=cE.push _ _ _;have u:=b.size;clear_value B;refine⟨G (ad _) b j,G (ad _) b j,G (ad _) b j,G (ad _) b K,G (ad _) b K,?_⟩;have sm:∀{v f:E},B.size<=v.size->J v f->eF [l.size,C.size,h.size,w.size] v f:=λaA x=>x.dv λd g=>by
   rcases List.mem_cons.1 g with e|e
   .have:=B9.lt;omega
   .have:=W d e;omega
  refine aG b λH F A Y ae aj c=>⟨sm (ad _) c,H,rfl,G u c j,G u c j,G u c j,G u c K,G u c K,?_⟩;have vu:=c.size;refine(gF (ay:=l.size::y.D::k.size::h.size::t) (bO (ac (s:=A) V) (ad _) (oh B9.lt)) (b.trans c) Y ae aj).mono λax Q⟨p,D,e,ar,aw,z⟩=>⟨sm vu z,p,_,e,?_⟩;intro au;exact⟨p,D,rfl,ad _,cE.ah (m:=Q) (o:=0) (r:=[.s p,.i D.aS]) ((B9.ext c).ext z),eO.le (cA aL λd g=>ai _ g) ar,aw,((b.trans c).trans z).ah (ad _) _ _⟩
 rintro⟨kb,Z⟩ v ⟨p,D,ho,aw,BB,aQ,ar,x1⟩;simp only at ho aw BB;subst ho;have bl:=BB.lt;have z1:=x1.size;have X1:=x8.trans x1;refine⟨y,(al.ext X1).bZ 1,_,BB.bZ 0,_,BB.bZ 1,?_⟩;have ae:k.size<l.size:=V;have iH:∀{f:E}{Q b':O},J v f->ap (bG (y.D::k.size::h.size::t) f) Q q.1.params->ap (bG (y.D::k.size::h.size::t) f) b' []->af (f.push (.cells (bt [.s Q,.s b',.i q.1.aS,.s p,.i D.aS]) jO)) k.size 1=af f k.size 1/\
  jK (f.push (.cells (bt [.s Q,.s b',.i q.1.aS,.s p,.i D.aS]) jO)) jO [.s .nil,.s .nil,.i 0,.s .nil,.i 0] 88 y (O.mk f.size 0 1 1) λT z=>eF [C.size,h.size,w.size] (f.push (.cells (bt [.s Q,.s b',.i q.1.aS,.s p,.i D.aS]) jO)) z/\fJ z k.size 1 1/\(eF [C.size,h.size,w.size] z (ah z k.size 1 [.s T])/\(aI (cT ((ab:Int)+1)) (ah z k.size 1 [.s T])/\μ (cT ((ab:Int)+1)) (ah z k.size 1 [.s T])<μ ab C)):=λL h1 h2=>
  Gr.box (g:=[.s .nil,.s .nil,.i 0,.s .nil,.i 0]) (j:=1) (y:=88) (i:=[.s dd,.s y]) (w:=⟨q.1.params,[],q.1.aS,D⟩) iQ.mono bh ((az.ext iQ.mono X1).ext iQ.mono L) (((xM.trans X1).trans L).fz []) ⟨_,_,p,rfl,h1,h2,eO.le (L.df _) aQ⟩ V ((al.ext X1).ext L) aL bh ⟨V,aL⟩ (λd g=>⟨by have:=W d g;have:=L.size;omega,by
   rcases List.mem_cons.1 g with e|e
   .omega
   .have:=ag d e;omega,by
   rcases List.mem_cons.1 g with e|e
   .omega
   .have:=ag d e;omega⟩) λT m' g' B' f' z' q'=>aT T m' ⟨q.1.params,[],q.1.aS,D⟩ g' B' f'.ext ⟨aP,aL,ar.1,by have:=ar.2;show D.w<=95;omega⟩
 have am:∀{f:E},J v f->ap f ao q.1.params:=λx=>ha.ext ((X.trans X1).trans x);have aj:∀{f:E},J v f->∀d∈y.D::k.size::h.size::t,d<f.size:=λx=>ac (oh x.size);have g1:∀{f z:E}{Z:Nat},J v f->J f z->af z kb Z=af f kb Z:=λx x'=>gl x' (oh x.size) _;have au:∀{f z:E},J v f->J f z->eF [C.size,h.size,w.size] f z:=λx x'=>x'.dv λd g=>by have:=W d g;have:=x.size;omega
 refine⟨?_,?_⟩
 .refine(bN (y.D::k.size::h.size::t) (am (J.az _)) V).mono λ_ B⟨Q,la,e,ga,ea,b⟩=>⟨au (J.az _) b,Q,e,g1 (J.az _) b,g1 (J.az _) b,G z1 b j,G z1 b ae,?_⟩;subst ea;have u:=b.size;intro A;have c:J B A:=J.push _ _;refine⟨g1 b c,g1 b c,G V c j,G V c j,G V c ae,?_⟩;exact iH (b.trans c) ((GI.done ga (aj (J.az _)) V).le (c.df _)) (mD _ _ _ _ _ _)
 .intro B;have b:J v B:=J.push _ _;have u:=b.size;refine⟨g1 (J.az _) b,g1 (J.az _) b,G z1 b j,G z1 b j,G z1 b ae,?_⟩;refine(bN (y.D::k.size::h.size::t) (am b) V).mono λ_ A⟨Q,la,e,ga,ea,c⟩=>⟨au b c,Q,e,g1 b c,g1 b c,G V c j,G V c ae,?_⟩;subst ea;exact iH (b.trans c) (GI.done ga (aj b) V) (mD _ _ _ _ _ _)
section
variable{L:List Nat}{K:Int->E->Prop}{v:Int}
def DG(P:Nat->Prop)(l b:List Instr)(n:Nat):Prop:=∃a,b=l++a/\(∀(i:Nat)(x:Instr),a[i]? =some x->Pe (l.length+i) x\/P (l.length+i)/\x.op=22)/\Qp a/\a.length<=n
section
variable{P c:Nat->Prop}{l a e:List Instr}{n b k:Nat}{x:Instr}
def mN.w(h:mN l a n):DG P l a n:=let⟨g,b,c,d,e⟩:=h;⟨g,b,λi x f=>Or.inl (c i x f),d,e⟩
def DG.Ym(h:DG P l a n)(f:∀q,¬P q)(m:n<=b):mN l a b:=let⟨j,c,d,e,k⟩:=h;⟨j,c,λi x g=>(d i x g).resolve_right λh=>f _ h.1,e,V⟩
def DG.imp(h:DG P l a n)(g:∀q,P q->c q)(o:n<=b):DG c l a b:=let⟨k,d,e,f,m⟩:=h;⟨k,d,λj x i=>(e j x i).imp id λh=>⟨g _ h.1,h.2⟩,f,V⟩
def DG.len(h:DG P l a n):l.length<=a.length/\a.length<=l.length+n:=by obtain⟨b,rfl,-,-,d⟩:=h;simp;omega
def DG.then(o:DG P l a n)(p:mN a e b):DG P l e (n+b):=by
 obtain⟨d,rfl,g,j,s⟩:=o;obtain⟨r,rfl,h,k,t⟩:=p;refine⟨d++r,aL,λi x c=>?_,λx q=>(List.mem_append.1 q).elim (j x) (k x),bE⟩;rcases aW i d.length with f|f
 .rw[ax f]at c;exact g i x c
 .rw[aI f]at c;have:=h _ x c;have m:(l++d).length+(i -d.length)=l.length+i:=bE;rw[m]at this;exact Or.inl this
def DG.ME(h:DG P l a n)(j:P a.length):DG P l (a++[⟨22,0,0,0,[],[]⟩]) (n+1):=by
 obtain⟨c,rfl,e,f,m⟩:=h;refine⟨c++[⟨22,0,0,0,[],[]⟩],aL,λi x b=>?_,λx k=>?_,bE⟩
 .rcases aW i c.length with d|d
  .rw[ax d]at b;exact e i x b
  .rw[aI d]at b;have:i -c.length=0:=by have:=av b;simp at this;omega
   rw[this]at b;simp at b;subst b;have g:i=c.length:=V;subst g;exact Or.inr ⟨by simpa using j,rfl⟩
 .rcases List.mem_append.1 k with h|h
  .exact f x h
  .simp at h;subst h;simp
def DG.set(h:DG P l a n)(g:l.length<=k)(m:Pe k x)(j:x.args.length<=10^12/\x.eL.length<=10^12):DG (λq=>P q/\q≠k) l (a.set k x) n:=by
 obtain⟨p,rfl,c,e,d⟩:=h;refine⟨p.set (k -l.length) x,by rw[XC _ _ g],λi y b=>?_,λy o=>?_,bE⟩
 .rw[jD]at b;split at b
  .rename_i q;have f:l.length+i=k:=V;split at b
   .simp at b;subst b;rw[f];exact Or.inl m
   .simp at b
  .exact(c i y b).imp id λh=>⟨⟨h.1,V⟩,h.2⟩
 .rcases cB o with h|h
  .exact e y h
  .rw[h];exact j
def DG.ZJ(h:DG P l a n)(d:l.length<=k)(c:a[k]? =some x):DG (λq=>P q/\q≠k) l (a.set k ⟨x.op,0,a.length,0,x.args,x.eL⟩) n:=by
 have m:=av c;have g:=h;obtain⟨i,rfl,e,f,j⟩:=h;rw[aI d]at c;have b:=e _ x c;rw[show l.length+(k -l.length)=k by omega]at b;refine g.set d ⟨λ_=>by show(k:Int)<((l++i).length:Nat);omega,λh=>?_⟩ (f x (aq c));simp only at h;rcases b with b|b
 .exact b.arg h
 .omega
end
section
variable{S:List Nat}{e m a:E}{b:Nat}{s c:O}{l d:List Instr}
def Fc.re{S' Y:List Nat}(h:Fc S e m b s l)(i:Fz Y m a)(f:∀c∈Y,c∈S/\c≠b/\c≠s.D)(j:∀c∈S',c∈S\/m.size<=c):Fc S' e a b s l:=
 ⟨h.box.congr (i.same _ h.box.lt λg=>(f _ g).2.1 rfl),h.gr.re dS.mono i (λc d=>ai _ (f c d).1) (λg=>(f _ g).2.2 rfl) λc d=>(List.mem_cons.1 d).elim (λg=>Or.inl (by rw[g];exact bg)) λd=>(j c d).imp (ai _) id,h.up⟩
def HU(k:Fc S e m b s l)(z:J e m)(w:∀h∈S,h<m.size)(n:l.length<=10^12)(u:∀f∈L,f<m.size/\f≠b/\f≠s.D){o i bP:Int}(y:∀c d a,Fc S e a b c d->d=l++[⟨o,i,bP,0,[v],[]⟩]->Fz [b,s.D] m a->(c.D=s.D\/m.size<=c.D)->K (l.length:Nat) a):
 aN cg 207 [vp b 0,.agg #[vi o,vi i,vi bP,vi 0,O.v (.mk m.size 0 1 1),O.v .nil]] (m.push (.cells (bt [.i v]) aA)) λr a=>eF L (m.push (.cells (bt [.i v]) aA)) a/\∃q:Int,r=vi q/\K q a:=by
 have g:=J.push m (.cells (bt [.i v]) aA)
 have D:=k.gr.bn;have C:=k.box.lt
 have A:ap (bG (s.D::b::S) (m.push (.cells (bt [.i v]) aA))) (.mk m.size 0 1 1) [v]:=ap.lit aA _ (by
  intro h p;simp only[aV]at p;rcases p with j|j|j
  .omega
  .omega
  .exact w h j) rfl rfl aL
 refine(qD (x:=⟨o,i,bP,0,[v],[]⟩) (k.ext g) (z.trans g).size A (tj _) n).mono λr a⟨p,c,d,t,j,h,B⟩=>⟨Pc.dv h λf n=>?_,_,p,?_⟩
 .have:=u f n;exact⟨g.lt this.1,this.2⟩
 exact y c d a t j.symm (((g.fz [b,s.D])).trans h) (oh g.size)
def TL(j:Fc S e m b s l)(t:J e m)(p:l.length<=10^12)(o:∀f∈L,f<m.size/\f≠b/\f≠s.D)(q:∀c d a,Fc S e a b c d->d=l++[⟨22,0,0,0,[],[]⟩]->Fz [b,s.D] m a->(c.D=s.D\/m.size<=c.D)->K (l.length:Nat) a):
 aN cg 207 [vp b 0,.agg #[vi 22,vi 0,vi 0,vi 0,O.v .nil,O.v .nil]] m λr a=>eF L m a/\∃n:Int,r=vi n/\K n a:=
 (qD (x:=⟨22,0,0,0,[],[]⟩) j t.size (tj _) (tj _) p).mono λr a⟨i,c,d,k,h,f,g⟩=>⟨Pc.dv f o,_,i,q c d a k h.symm f g⟩
def Ta{K:E->Prop}{k:Nat}{x:Instr}(i:Fc S e m b s l)(q:J e m)(p:l[k]? =some x)(n:∀f∈L,f<m.size/\f≠b/\f≠s.D)(o:∀c d a,Fc S e a b c d->d=l.set k ⟨x.op,0,l.length,0,x.args,x.eL⟩->Fz [b,s.D] m a->(c.D=s.D\/m.size<=c.D)->K a):
 aN cg 236 [vp b 0,vi k] m λ_ a=>eF L m a/\K a:=
 (Q6 i q.size p).mono λr a⟨c,d,j,h,f,g⟩=>⟨Pc.dv f n,o c d a j h.symm f g⟩
end
def QU{l:List Instr}{d:Int}:mN l (l++[⟨18,d,0,0,[v],[]⟩]) 1:=mN.lJ ⟨sx,λ_=>aL⟩ aL
end
section
variable{b:List gN}
def Lu{D:List bz}{h:cV}(co:h.op=7\/h.op=8)(ih:∀c∈h.bC,WG D b c):XK D b h:=by
 intro B G F d s z cons first cl fl a4 ba aH ah i au cv cI r ha hk
 apply ua (d,0);simp -zeta only[aC,aB];intro ax ac;let⟨x2,hl⟩:=dD (a:=ax) (c:=ac) rfl rfl;have s1:ax.size=F.size+1:=by simp[ax]
 have s2:ac.size=F.size+2:=by simp[ac,s1]
 clear_value ac;have cz:=i.em.box.lt;have cT:=i.em.gr.bn;have cS:=cV.mr h;have cp:=ha.len;have cH:=hk.len;have cF:=qb h.bC;have cM:=au.eZ.lJ V;have cw:=i.cons.len;have cK:=i.x.size;have df:∀{f:E}{g:O},Fz [d,s.D] F f->(g.D=s.D\/F.size<=g.D)->Le (bG [s.D,d] F) (bG [g.D,d] f):=QB;have st:∀{a0:List Nat}{f:E}{g:O}{L:List Instr},Fc a0 G f d g L->Fz [d,s.D] F f->(g.D=s.D\/F.size<=g.D)->(∀m∈a0,m<f.size)->RW a0 G f d g L cons first cl fl:=λv I e hS=>⟨v,i.em.gF i.x I,hS,i.cons.le (df I e),i.first.le (df I e),i.same,i.je⟩
 have LL:∀{f:E}{g:O},ac.size<=f.size->(g.D=s.D\/ac.size<=g.D)->∀c∈[ax.size,F.size],c<f.size/\c≠d/\c≠g.D:=λhz e c a6=>by simp at a6;omega
 have fr:∀{f p:E}{g:O},Fz [d,s.D] F f->(g.D=s.D\/ac.size<=g.D)->Fz [d,g.D] f p->Fz [d,s.D] F p:=λI e aa=>I.rV aa λA o=>by simp at o⊢;omega
 have gF:∀{f:E},F.size<=f.size->∀m∈B,m<f.size:=λj m hc=>by have:=i.gF m hc;omega
 have aF:∀{w:Nat}{c:Bk}{f:E},h.bC[w]? =some c->J G f->∃K,eO G K c.aD/\af f ah.D (ah.off+w*2)=some (O.v K)/\af f ah.D (ah.off+w*2+1)=some (vi c.aS):=λe be=>let⟨K,h1,h2,h3⟩:=hk.aF e;⟨K,h1,be.af h2,be.af h3⟩;refine⟨λh7=>?_,λh7=>?_⟩
 .simp only[aG]at h7;have aO:=au.eZ.Ka h7;let⟨C,P⟩:=cG h.bC 0;let⟨b1,R⟩:=cG h.bC 1;have bT:bw h.bC=C.w+b1.w:=by
   obtain⟨u,y,l⟩:∃u y,h.bC=[u,y]:=by
    match h.bC,aO with
    |[u,y],_=>exact⟨u,y,rfl⟩
   rw[l]at P R⊢;simp at P R;subst P R;simp[bw]
  have w0:=C.Hf;have w1:=b1.Hf;have ab:∀w,BG D h.op h.bP w=0:=λw=>Kv V;have E2:=i.ext x2;refine(bN (s.D::d::B) (ha.ext E2.x) V).mono λy N⟨a',la,l,ga,ea,x3⟩=>⟨x3.dv hl,a',l,?_⟩;subst ea;have z3:=x3.size;have aP:∀m∈s.D::d::B,m<ac.size:=bO (bO (gF (f:=ac) V) V V) (ad _) V;refine(qD (x:=⟨20,0,0,0,h.args,[]⟩) (E2.em.ext x3) (E2.x.trans x3).size (GI.done ga aP (by show h.args.length<=_;omega)) (tj _) V).mono λy m4⟨ev,s4,l4,ao,p4,f4,b4⟩=>⟨Pc.dv f4 (LL z3 (Or.inl rfl)),_,ev,?_⟩;subst p4;have z4:=f4.size;have F4:Fz [d,s.D] F m4:=((x2.trans x3).fz _).trans f4;have w4:DG (λ_=>False) z (z++[⟨20,0,0,0,h.args,[]⟩]) 1:=(mN.lJ ⟨sx,sx⟩ ⟨by show h.args.length<=_;omega,aL⟩).w;let⟨t0,aR,g0,g1⟩:=aF P (i.em.gF i.x F4);refine⟨bh,V,_,g0,_,g1,?_⟩;have ae:=au.bC 0 C P;rw[ab]at ae;have aU:=w4.len;refine(ih C (aq P) B G m4 d s4 _ cons first cl fl a4 ba t0 (st ao F4 V (gF V)) (by simpa using ae) V V r aR).mono λy t⟨s5,l5,a5,p5,f5,b5⟩=>⟨Pc.dv f5 (LL V V),?_⟩;have F5:=fr F4 V f5;have z5:=f5.size;have w5:=w4.then p5;have X5:=i.em.gF i.x F5;obtain⟨_,-,-,g5⟩:=aF P X5;refine⟨bh,V,_,g5,?_⟩;have aW:=w5.len;refine HU a5 X5 (gF V) V (LL V V) λs6 Q Z av e6 f6 b6=>?_;have F6:=fr F5 V f6;have z6:=f6.size;have w6:DG (λ_=>False) z Q (1+6*(C.w -1)+1):=e6▸w5.then QU;have aX:=w6.len;have a7:Q.length=l5.length+1:=by rw[e6];simp
  have X6:=i.em.gF i.x F6;refine TL av X6 V (LL V V) λs7 l7 m7 ay e7 f7 b7=>?_;have F7:=fr F6 V f7;have z7:=f7.size;have w7:DG (λq=>q=Q.length) z l7 (1+6*(C.w -1)+1+1):=e7▸(w6.imp (λ_ j=>j.elim) (ad _)).ME rfl;have a8:l7.length=Q.length+1:=by rw[e7];simp
  let⟨H,al⟩:=cG l7 z.length;refine Ta ay (i.em.gF i.x F7) al (LL V V) λs8 l8 U aE e8 f8 b8=>?_;have w8:DG (λq=>q=Q.length) z l8 (1+6*(C.w -1)+1+1):=e8▸(w7.ZJ (ad _) al).imp (λ_ j=>j.1) (ad _);have a9:l8.length=l7.length:=by rw[e8];simp
  have T:=fr F7 V f8;have z8:=f8.size;let⟨t1,aT,k0,k1⟩:=aF R (i.em.gF i.x T);refine⟨bh,V,_,k0,_,k1,?_⟩;have ag:=au.bC 1 b1 R;rw[ab]at ag;have aZ:=w8.len;refine(ih b1 (aq R) B G U d s8 l8 cons first cl fl a4 ba t1 (st aE T V (gF V)) (by simpa using ag) V V r aT).mono λy m9⟨s9,l9,aK,p9,W,b9⟩=>⟨Pc.dv W (LL V V),?_⟩;have F9:=fr T V W;have z9:=W.size;have w9:=w8.then p9;have X9:=i.em.gF i.x F9;obtain⟨_,-,-,g9⟩:=aF R X9;refine⟨bh,V,_,g9,?_⟩;have bY:=w9.len;have a_:l8.length<=l9.length:=by obtain⟨nw,l,-⟩:=p9;rw[l];simp
  refine HU aK X9 (gF V) V (LL V V) λbr Y bb am aI aD bC=>?_;have aN:DG (λq=>q=Q.length) z Y (1+6*(C.w -1)+1+1+6*(b1.w -1)+1):=aI▸w9.then QU;have az:=fr F9 V aD;have vu:=aD.size;have b0:Y.length=l9.length+1:=by rw[aI];simp
  let⟨bd,ak⟩:=cG Y Q.length;refine Ta am (i.em.gF i.x az) ak (LL V V) λaY aM bc an aS aJ bD=>?_;exact⟨aY,aM,an,aS▸(aN.ZJ V ak).Ym (λq j=>j.2 j.1) V,fr az V aJ,V⟩
 .simp only[aj]at h7;have h8:h.op=8:=V;let⟨cE,cC⟩:=au.eZ.all h8;let⟨A,bn⟩:=cG h.args 0;let⟨y0,y1⟩:=au.eZ.args A (aq bn);obtain⟨yn,rfl⟩:∃b8:Nat,A=b8:=⟨A.toNat,V⟩;have E2:=i.ext x2;refine⟨bh,V,yn,(ha.ext E2.x).aF bn,?_⟩;have b7:∀m∈[s.D,d],m<ac.size:=λm hc=>by simp at hc;omega
  refine(il (e:=[s.D,d]) b7 (r.bo.le E2.x.le) r.types h.bP).mono λy N⟨aR,ch,ec,hc,qc,x3⟩=>⟨x3.dv hl,aR,ec,?_⟩;subst qc;have cx:=hc.len;have z3:=x3.size;intro m4;refine HU (E2.em.ext x3) (E2.x.trans x3) (gF V) V (LL z3 (Or.inl rfl)) λs5 l5 t a5 e5 f5 b5=>?_;have z5:=f5.size;have w5:DG (λ_=>False) z l5 1:=e5▸(mN.lJ ⟨sx,sx⟩ ⟨aL,aL⟩).w;have cZ:l5.length=z.length+1:=by rw[e5];simp
  intro Z m7;have x6:J t Z:=J.push _ _;have x7:J Z m7:=J.push _ _;have s6:Z.size=t.size+1:=by simp[Z]
  have s7:m7.size=Z.size+1:=by simp[m7]
  have bQ:GI [] t m7 (.mk t.size 0 0 0) []:=(GI.nil [] t).ext x7;have bM:GI [] t m7 (.mk Z.size 0 0 0) []:=GI.cx (GI.nil [] Z) (λ_ j=>j) x6.size;clear_value m7 Z;have bf:=x6.trans x7;have aE:∀{f p:E}{g:O},Fz [d,s.D] N f->(g.D=s.D\/N.size<=g.D)->Fz [d,g.D] f p->Fz [d,s.D] N p:=λI e aa=>I.rV aa λA o=>by simp at o⊢;omega
  have F0:Fz [d,s.D] F N:=(x2.trans x3).fz _;have bg:∀{f:E}{g:O}{w:Nat}{m:Int},Fz [d,s.D] N f->(g.D=s.D\/N.size<=g.D)->(cy D h.bP)[w]? =some m->af f aR.D (aR.off+w*1)=some (vi m):=λ{f g w m} I e j=>(eP.1 ((hc.le (pA (c:=[g.D,d]) (a:=f) λc a6 r=>by
   simp at r;exact⟨by simp;rcases e with l|l<;>omega,I.same c a6 bE⟩)).aF j)).2
  have bt:∀{f:E},t.size<=f.size->Fz (List.range t.size) t f:=λj=>⟨j,λc e r=>absurd (List.mem_range.2 e) r⟩;have ak:∀{f p:E}{u:O}{ul:List Int}{aP:List Nat},GI [] t f u ul->Fz aP f p->u.D∉aP->GI [] t p u ul:=λ{f p u ul aP} aa I j=>GI.any ((GI.any (e:=aP) aa).Nu tV.mono I (λ_ j=>j) j);have o7:Fc (t.size::Z.size::B) G m7 d s5 l5:=a5.re (bf.fz []) aL λc e=>by
   simp only[aV]at e;rcases e with l|l|l
   .exact Or.inr V
   .exact Or.inr V
   .exact Or.inl l
  refine wN (n:=(cy D h.bP).length) V (λah K en f=>∃g L tl C,Fc (K.D::en.D::B) G f d g L/\DG (λq=>(q:Int)∈C) z L (1+6*bw (h.bC.take ah))/\GI [] t f K tl/\tl.length=ah/\GI [] t f en C/\C.length<=ah/\(∀A∈C,∃q:Nat,A=q/\z.length<q/\q<L.length)/\K.D≠en.D/\Fz [d,s.D] N f/\(g.D=s.D\/N.size<=g.D)/\m7.size<=f.size/\z.length<L.length)
   ⟨s5,l5,[],[],o7,w5.imp (λ_ j=>j.elim) aL,bQ,rfl,bM,ad _,aL,by show t.size≠Z.size;omega,f5.then bf,V,ad _,V⟩ ?_
  rintro T K en f ce μ hj ⟨g,L,tl,C,v,bc,gt,cO,ge,cA,a8,cL,I,e,zM,cJ⟩ bo
  have bv:=F0.trans I;have XM:=i.em.gF i.x bv;have ty:=gt.bn;have ey:=ge.bn;have t1:K.D≠d:=gt.ne v.box bh;have t2:K.D≠g.D:=gt.Lb v.gr bh;have n1:en.D≠d:=ge.ne v.box bh;have n2:en.D≠g.D:=ge.Lb v.gr bh;have cN:=v.gr.len bh;have cR:=bc.len;have bT:=Kx h.bC T;have oy:=v.gr.bn;have c2:=v.box.lt;refine dit (λj=>?_) λj=>?_
  .let⟨m,a7⟩:=cG (cy D h.bP) T;let⟨c,aK⟩:=cG h.bC T;have ct:=uq aK;have cu:=Kx h.bC (T+1);have cr:=c.Hf;have bl:BG D h.op h.bP T=(cD D m).length:=Ku h8 a7;have cq:=Qv r.types h.op h.bP T;refine⟨g,v.box.bZ 0,?_⟩;intro U;refine GI.kH gt (bt V) aL V λt' M1 aT cj z1 q1=>?_;have fa:Fz [K.D] f M1:=⟨z1.1,λc e r=>q1 c e (by simpa using r)⟩;refine⟨λc e=>by
    simp at e;rw[q1 c V V,(J.push f _).same c V],?_⟩
   have f1:Fz [d,s.D] N M1:=I.rV fa λA o=>by simp at o⊢;omega
   have bK:=ak ge fa bE;have o1:Fc (t'.D::en.D::B) G M1 d g L:=v.re fa (by simp;exact⟨t1,t2⟩) λc e=>by
    rcases List.mem_cons.1 e with l|l
    .rcases z1.2 with e'|e'
     .exact Or.inl (by rw[l,e'];simp)
     .exact Or.inr V
    .exact Or.inl (ai _ l)
   have cc:=aT.bn;refine⟨V,V,m,bg f1 e a7,?_⟩;have X1:=i.em.gF i.x (F0.trans f1);refine(dI (e:=[]) aL (r.bo.le (X1.le.trans (zW _))) r.types m).mono λy M2⟨ff,cn,ef,hf,qf,aO⟩=>⟨aO.dv λc e=>by simp at e;omega,ff,ef,?_⟩;subst qf;have bU:=hf.len;have z2:=aO.size;have f2:=f1.then aO;refine dU (n:=(cD D m).length) V (λw p=>∃ay av,Fc (t'.D::en.D::B) G p d ay av/\DG (λq=>(q:Int)∈C) z av (1+6*bw (h.bC.take T)+w)/\Fz [d,g.D] M2 p/\(ay.D=g.D\/M2.size<=ay.D)/\L.length<=av.length) ⟨g,L,o1.ext aO,bc,Fz.az _ _,Or.inl rfl,ad _⟩ ?_;rintro w M3 I3 μ3 hi ⟨ae,l3,o3,w3,f3,b3,cW⟩ b_;have c5:=f3.size;have F3:=aE f2 e f3;have aU:ae.D=s.D\/N.size<=ae.D:=V;have cQ:=w3.len;have X3:=i.em.gF i.x (F0.trans F3);have LM:∀{p:E}{u:O},M3.size<=p.size->(u.D=s.D\/N.size<=u.D)->∀c∈[ax.size,F.size],c<p.size/\c≠d/\c≠u.D:=λhz e=>LL V V;have aW:∀{p:E},M3.size<=p.size->∀m∈t'.D::en.D::B,m<p.size:=λj=>bO (bO (gF (f:=M3) V) (ad _) V) j V;refine⟨λa9=>?_,λa9=>?_⟩
   .simp only[ar]at a9;intro m9;refine HU o3 X3 (aW (ad _)) V (LM (ad _) aU) λs4 l4 M4 o4 e4 f4 b4=>b_ V _ ⟨s4,l4,o4,?_,f3.rV f4 λA o=>by simp at o⊢;omega,V,by rw[e4];simp;omega⟩;rw[e4];exact w3.then (mN.lJ ⟨sx,sx⟩ ⟨aL,aL⟩)
   simp only[bL]at a9;have a_:w=(cD D m).length:=V;subst a_;have y3:=o3.gr.bn;have cf:=o3.box.lt;have ab:∀{p:E},M3.size<=p.size->∀m∈[ae.D,d],m<p.size:=λj m hc=>by simp at hc;omega
   rw[bU];refine(lV (S:=[ae.D,d]) (ab (ad _)) 0 (cD D m).length V).mono λy M4⟨s4,l4,e4,g4,q4,x4⟩=>⟨x4.dv λc e=>by simp at e;omega,s4,e4,?_⟩;have z4:=x4.size;have h4:=GI.done g4 (ab (ad _)) V;let⟨tk,bX,k0,k1⟩:=aF aK (X3.trans x4);have F4:=F3.then x4;have R:∀{u y:E},J M4 u->J u y->∀v,af y ax.size v=af u ax.size v/\af y F.size v=af u F.size v:=λaH c v=>⟨gl c (oh aH.size) v,gl c (oh aH.size) v⟩;refine⟨V,V,tk,k0,_,k1,V,V,m,bg F4 aU a7,?_⟩;have S4:=st o3 (F0.trans F3) V (aW (ad _));have cg:=S4.cons.len;have cm:=S4.first.len;have c3:=S4.same;refine(uJ (S:=[ae.D,d]) (ab z4) (S4.cons.le (x4.df _)) V (a:=yn) V m).mono λy M5⟨s5,cY,e5,g5,q5,P⟩=>⟨P.dv λc e=>by simp at e;omega,s5,e5,gx P k0,gx P k1,(R (J.az _) P _).1,(R (J.az _) P _).2,(R (J.az _) P _).2,?_⟩;have z5:=P.size;have h5:=GI.done g5 (ab z4) (by rw[<-q5];simp;omega);refine(eN (S:=[ae.D,d]) (ab V) h5 (h4.le (P.df _)) (by rw[<-q5];simp;omega)).mono λy M6⟨bb,Q,e6,g6,q6,al⟩=>⟨al.dv λc e=>by simp at e;omega,bb,e6,gx al (P.af k0),gx al (P.af k1),(R P al _).1,(R P al _).2,(R P al _).2,?_⟩;have z6:=al.size;have an:=P.trans al;have h6:=GI.done g6 (ab V) (by rw[<-q6,<-q5];simp;omega);refine(uJ (S:=[ae.D,d]) (ab V) (S4.first.le ((x4.trans an).df _)) V (a:=yn) V cons.len).mono λy M7⟨ca,l7,e7,g7,q7,ag⟩=>⟨ag.dv λc e=>by simp at e;omega,ca,e7,gx ag (an.af k0),gx ag (an.af k1),(R an ag _).1,(R an ag _).2,(R an ag _).2,?_⟩;have z7:=ag.size;have ao:=an.trans ag;have bR:=GI.done g7 (ab V) (by rw[<-q7];simp;omega);refine(eN (S:=[ae.D,d]) (ab V) bR (h4.le (ao.df _)) (by rw[<-q7];simp;omega)).mono λy M8⟨s8,l8,e8,g8,q8,H⟩=>⟨H.dv λc e=>by simp at e;omega,s8,e8,gx H (ao.af k0),gx H (ao.af k1),(R ao H _).1,(R ao H _).2,(R ao H _).2,?_⟩;have z8:=H.size;have bS:=GI.done g8 (ab V) (by rw[<-q8,<-q7];simp;omega);have am:=(x4.trans ao).trans H;have bm:Q.length=cl.length+BG D h.op h.bP T:=by rw[<-q6,<-q5,bl];simp;omega
   have bV:l8.length=Q.length:=by rw[<-q8,<-q7,bm,bl];simp;omega
   have ES:RW (t'.D::en.D::B) G M8 d ae l3 bb s8 Q l8:=⟨o3.ext am,X3.trans am,aW am.size,h6.le ((ag.trans H).df _),bS,bV,λA o=>by
    rw[<-q8]at o;rcases List.mem_append.1 o with o|o
    .rw[<-q7]at o;rcases cB o with o|o
     .exact i.je A o
     .omega
    .have:=q4.1 A o;omega⟩
   have bZ:WB D b.length True Q.length c:=by rw[bm];exact au.bC T c aK
   refine(ih c (aq aK) _ G M8 d ae l3 bb s8 Q l8 a4 ba tk ES bZ V V r bX).mono λy M9⟨s9,l9,o9,p9,W,b9⟩=>⟨Pc.dv W (LM (oh am.size) aU),?_⟩;have z9:=W.size;have c6:=am.size;have F9:=aE (F3.then am) aU W;have X9:=i.em.gF i.x (F0.trans F9);have w9:=w3.then p9;have bY:=w9.len;have cX:l3.length<=l9.length:=by obtain⟨nw,l,-⟩:=p9;rw[l];simp
   obtain⟨_,-,-,g9⟩:=aF aK X9;refine⟨V,V,_,g9,?_⟩;refine HU o9 X9 (aW V) V (LM V V) λbr Y bd aX aI aD bC=>?_;have vu:=aD.size;have az:=aE F9 V aD;have aN:DG (λq=>(q:Int)∈C) z Y (1+6*bw (h.bC.take T)+(cD D m).length+6*(c.w -1)+1):=aI▸w9.then QU;have b0:Y.length=l9.length+1:=by rw[aI];simp
   have cP:=aN.len;have kI:∀{u:O}{ul:List Int},GI [] t M1 u ul->u.D≠d->u.D≠g.D->u.D<M1.size->GI [] t bd u ul:=λ{u ul} aa a1 a2 a3=>by
    have g2:=aa.ext aO;have g3:=ak g2 f3 (by simp;exact⟨a1,a2⟩);have bH:=g3.ext am;have bI:=ak bH W (by simp;exact⟨a1,by rcases b3 with l|l<;>omega⟩);exact ak bI aD (by simp;exact⟨a1,by rcases b9 with l|l<;>omega⟩)
   have bs:t'.D≠d:=aT.ne o1.box bh;have cb:t'.D≠g.D:=aT.Lb o1.gr bh;have bk:=kI aT bs cb cc.2;have bi:=kI bK n1 n2 V;rw[aQ (b:=(aR.len:Int) -1) V V];refine⟨λbW=>?_,λbW=>bo V _ _ _ ⟨br,Y,tl++[(g.len:Int)],C,aX,aN.imp (λ_ j=>j) V,bk,bE,bi,V,λA o=>by obtain⟨q,l,h1,h2⟩:=a8 A o;exact⟨q,l,h1,V⟩,V,az,V,V,V⟩⟩;have c1:=aX.gr.bn;refine TL aX (i.em.gF i.x (F0.trans az)) V (LM V V) λaY aM aZ bp aS aJ bD=>?_;have c4:=aJ.size;have bx:=aE az V aJ;have cd:DG (λq=>(q:Int)∈C++[(Y.length:Int)]) z aM (1+6*bw (h.bC.take T)+(cD D m).length+6*(c.w -1)+1+1):=aS▸(aN.imp (λq j=>List.mem_append.2 (Or.inl j)) (ad _)).ME aL;have cU:aM.length=Y.length+1:=by rw[aS];simp
   have nx:∀{u:O}{ul:List Int},GI [] t bd u ul->u.D≠d->GI [] t aZ u ul:=λaa aH=>ak aa aJ (by simp;exact⟨aH,aa.Lb aX.gr bh⟩);have bP:=nx bk bs;have bj:=nx bi n1;intro c0;refine GI.kH bj (bt V) aL V λci bB bJ ck bu bq=>?_;have fb:Fz [en.D] aZ bB:=⟨bu.1,λc e r=>bq c e (by simpa using r)⟩;have bF:en.D≠aY.D:=bj.Lb bp.gr bh;refine⟨λc e=>by
    simp at e;rw[bq c V V,(J.push aZ _).same c V],bo V _ _ _ ⟨aY,aM,tl++[(g.len:Int)],C++[(Y.length:Int)],?_,cd.imp (λ_ j=>j) V,ak bP fb bE,bE,bJ,bE,λA o=>?_,V,bx.rV fb λA o=>by simp at o⊢;omega,V,V,V⟩⟩
   .exact bp.re fb (by simp;exact⟨n1,bF⟩) λc e=>by
     simp only[aV]at e⊢;rcases e with l|l|l
     .exact Or.inl (Or.inl l)
     .rcases bu.2 with e'|e'
      .exact Or.inl (Or.inr (Or.inl V))
      .exact Or.inr V
     .exact Or.inl (Or.inr (Or.inr l))
   .rcases List.mem_append.1 o with o|o
    .let⟨q,l,h1,h2⟩:=a8 A o;exact⟨q,l,h1,V⟩
    .simp at o;exact⟨Y.length,o,V,V⟩
  .have al:T=(cy D h.bP).length:=V;subst al;refine⟨g,v.box.bZ 0,?_⟩;intro U;have H:J f U:=J.push _ _;have ao:ap (bG (g.D::d::B) U) (.mk f.size 0 1 1) [(yn:Int)]:=ap.lit aA _ (bO (bO (gF (f:=f) V) (ad _) V) (ad _) V) rfl rfl aL;have s8:U.size=f.size+1:=by simp[U]
   clear_value U;refine⟨gl H V _,gl H V _,V,V,?_⟩;have P:Fc B G U d g L:=(v.ext H).re (Fz.az [] _) aL λc e=>Or.inl (ai _ (ai _ e));have az:K.D∉g.D::d::B:=by
    simp only[aV,vt];exact⟨t2,t1,λj=>oh (gF (f:=F) (ad _) _ j)⟩
   have an:ap (bG (g.D::d::B) U) K tl:=(GI.any (e:=g.D::d::B) (gt.ext H)).nF tV.mono az bh V;obtain⟨wr,gs,-,Y⟩:=P.gr.set dS.mono (X:=List.range G.size) ⟨V,λc e r=>absurd (List.mem_range.2 e) r⟩ (k:=z.length) V (a:=⟨21,0,h.bP,0,[(yn:Int)],tl⟩) (cs:=[.i 21,.i 0,.i h.bP,.i 0,.s (.mk f.size 0 1 1),.s K]) ⟨_,_,rfl,ao,an⟩;refine⟨wr,?_⟩;intro m9;have s9:m9.size=U.size:=aw _ _ _ _;have o9:Fc B G m9 d g (L.set z.length ⟨21,0,h.bP,0,[(yn:Int)],tl⟩):=⟨P.box.congr (Y d (kC P.ne)),gs,P.up⟩;have W:Fz [d,g.D] f m9:=⟨V,λc e r=>by
    simp at r;have e1:m9[c]? =U[c]? :=Y c r.2;rw[e1,H.same c e]⟩
   have w9:=(bc.set (x:=⟨21,0,h.bP,0,[(yn:Int)],tl⟩) (k:=z.length) (ad _) ⟨sx,sx⟩ ⟨aL,by show tl.length<=_;omega⟩).imp (c:=λq=>(q:Int)∈C) (λ_ j=>j.1) (ad _);refine⟨λc e=>Y c (by simp at e;omega),?_⟩;have aD:=ge.len bh;refine dU (n:=C.length) V (λw p=>∃ay av,Fc B G p d ay av/\DG (λq=>(q:Int)∈C.drop w) z av (1+6*bw (h.bC.take (cy D h.bP).length))/\av.length=L.length/\GI [] t p en C/\Fz [d,s.D] N p/\(ay.D=s.D\/N.size<=ay.D)/\m7.size<=p.size) ⟨g,_,o9,by simpa using w9,aL,ak ge W (by simp;exact⟨n1,n2⟩),aE I e W,e,V⟩ ?_;rintro w p I2 μ2 hi ⟨ay,l2,o2,w2,am,Q,f2,b2,z2⟩ av;refine dit (λj=>?_) λj=>?_
   .let⟨A,R⟩:=cG C w;obtain⟨q,rfl,aI,aJ⟩:=a8 A (aq R);have ag:ap (bG [] p) en C:=(GI.any (e:=[]) Q).nF tV.mono aL bh V;have ae:=ag.le (bA _ _);let⟨xq,ab⟩:=cG l2 q;refine⟨V,V,q,ae.aF R,?_⟩;refine Ta o2 (i.em.gF i.x (F0.trans f2)) ab (LL V V) λs4 l4 M4 o4 e4 f4 b4=>av V _ ⟨s4,l4,o4,?_,by rw[e4];simp;exact am,ak Q f4 (by simp;exact⟨n1,Q.Lb o2.gr bh⟩),aE f2 b2 f4,oh f2.size,oh f4.size⟩;rw[e4];refine(w2.ZJ V ab).imp (λq' j=>?_) (ad _);let⟨h1,h2⟩:=j;rw[pZ V]at h1;rcases List.mem_cons.1 h1 with l|l
    .have:C[w]=(q:Int):=by have:=List.getElem?_eq_some_iff.1 R;exact this.2
     rw[this]at l;exact absurd V h2
    .exact l
   .have a_:w=C.length:=V;subst a_;rw[List.drop_length]at w2;exact⟨ay,l2,o2,w2.Ym aL V,F0.trans f2,V⟩
def LD{c:List bz}:∀a:Bk,WG c b a:=Bk.ind λaD r f=>LC λx e h=>Lu h λa d=>f x e a d
end
def mN.dq{l:List Instr}{n:Nat}(h:mN [] l n):RU l/\Qp l/\l.length<=n:=by
 obtain⟨e,rfl,b,c,d⟩:=h;exact⟨λk x a=>by have:=b k x a;simpa using this,c,d⟩
def LH{e:List Nat}{r:E}(hS:∀f∈e,f<r.size){B ag:O}{Z:List bz}{rs:List gN}(P:eK r B ag Z rs){al:Nat}(ay:yi Z rs True al)(hW:al<=120000000000):Qo 164 [.agg #[O.v B,O.v ag]] r e Z DJ:=by
 apply Et;simp -zeta only[aC,aB];have ht:=P.types;have hp:=P.iT;intro b a2;let⟨x2,hl⟩:=dD (a:=b) (c:=a2) rfl rfl;have s1:b.size=r.size+1:=by simp[b]
 clear_value a2;have aX:=hp.len;have bo:=P.oA;have bn:=ay.iV;refine(fU (b:=b.size::e) (bO hS x2.size (hl _ aL)) (P.bo.le x2.le) ht).mono λ_ ac⟨dd,g,aU,x3⟩=>?_;subst g;refine⟨x3.dv hl,_,rfl,?_⟩;intro j a3 aF;have u2:=x2.trans x3;let⟨x5,B0,g0,s3,s5⟩:=kW (b:=j.size::b.size::e) lj.mono (d:=ac) (a:=j) (c:=a3) (h:=aF) rfl rfl rfl;clear_value aF;have ax:∀f∈[b.size,r.size],f<ac.size:=λf l=>x3.lt (hl f l);have av:∀f∈b.size::e,f<ac.size:=λf l=>x3.lt (bO hS x2.size (hl _ aL) f l);refine kQ (R:=λd h u=>∃B p c,Value.agg #[O.v d,O.v h]=.agg #[O.v B,O.v p]/\cw (bG e u) B Z/\iG (bG e u) p c/\DJ c/\J r u) (r:=rs.length) (f:=r) (b:=e) lj.mono bh bh hS ⟨V,ax _ aL⟩ u2 s3 aU aX V x5 B0 g0 (λ_ q=>SW q) (λc r' aA m' d h t k o=>⟨c,r',aA,rfl,d,h,⟨V,V,λq hq=>by obtain⟨s,p⟩:=List.mem_iff_getElem?.1 hq;exact k s q p⟩,o⟩) λaz u o aA bf μ aW bl xM ar aj a6=>?_
 let⟨q,hq⟩:=cG rs az aW;let⟨q3,ba,bb,qw⟩:=ay.dz q (aq hq);have F:=u2.trans xM;obtain⟨cs,⟨bg,k,bd,rfl,c1,c2,c3⟩,Q⟩:=hp.iA az q hq;have aP:=c1.len;have qp:=q.body.Hf;refine⟨V,V,_,F.af (Q 0 _ rfl),_,F.af (Q 1 _ rfl),_,F.af (Q 2 _ rfl),_,F.af (Q 3 _ rfl),_,F.af (Q 4 _ rfl),?_⟩;intro m7 c;have hy:=ar.bn;have bj:=aj.lt;have zM:=xM.size;obtain⟨x8,-,s8⟩:=kE (M:=u) (d:=m7) (c:=c) rfl rfl rfl;clear_value c;have bm:=u2.size;have w8:=F.trans x8;have N:∀{I:E},c.size<=I.size->∀f∈o.D::j.size::b.size::e,f<I.size:=λh f l=>by
  simp only[aV]at l;rcases l with g|g|g|g
  .omega
  .omega
  .have:=av f (by simp[g]);omega
  .have:=av f (by simp[g]);omega
 have bk:b.size<ac.size:=ax _ aL;intro d s;have x9:J c d:=J.push _ _;have s9:d.size=c.size+1:=by simp[d]
 have aJ:J d s:=J.push _ _;have bu:s.size=d.size+1:=by simp[s]
 have g9:Vm (d.size::o.D::j.size::b.size::e) c d (.mk c.size 0 0 0) []:=Gr.new _ (ad _) _ _ _;have aM:cE s d.size nW [.s (.mk c.size 0 0 0)]:=cE.push _ _ _;have aQ:Fc (o.D::j.size::b.size::e) c s d.size (.mk c.size 0 0 0) []:=⟨aM,g9.ext dS.mono aJ,V⟩;clear_value s d;have am:=x9.trans aJ;have aD:∀f∈[c.size,d.size],f<s.size:=λf l=>by simp at l;omega
 have LL:∀{I:E}{s':O},s.size<=I.size->(s'.D=c.size\/s.size<=s'.D)->∀k∈[u.size,b.size,r.size],k<I.size/\k≠d.size/\k≠s'.D:=λhz z k aS=>by simp at aS;omega
 rw[aP];refine(lV (S:=[c.size,d.size]) aD 0 q.params.length V).mono λ_ aE⟨U,ab,g,aR,aI,W⟩=>⟨W.dv λk z=>by simp at z;omega,U,g,?_⟩;have au:=GI.done aR aD V;have be:=W.size;have aN:RW (o.D::j.size::b.size::e) c aE d.size (.mk c.size 0 0 0) [] U U ab ab:=⟨aQ.ext W,am.trans W,N V,au,au,rfl,λy hy=>oh (aI.1 y hy)⟩;refine(LD q.body _ c aE d.size _ [] U U ab ab B ag bd aN (by rw[aI.2];exact bb) V bE (P.le w8.le) (eO.le w8.le c3)).mono λbw aZ⟨bv,bp,ae,aH,aa,aO⟩=>⟨Pc.dv aa (LL be (Or.inl rfl)),?_⟩;have bC:=aa.size;simp only[O.jA]at aO aa;have an:J c aZ:=Fz.ext ((((am.trans W).fz [d.size,c.size]).trans aa).DB λk z=>Or.inr (by simp at z;omega));have a9:=aH.len;intro bq;refine HU ae an (N V) (by simp at a9;omega) (LL V V) λA D v L ao ap bi=>?_;have bD:=ap.size;have bx:=ae.gr.bn;have X:J c v:=ae.gF an ap;have a_:mN [] D (6*q.body.w):=ao▸(aH.trans (mN.lJ (x:=⟨23,0,0,0,[q.body.aS],[]⟩) ⟨sx,λ_=>aL⟩ aL)).fg V;let⟨a7,a8,bt⟩:=a_.dq;have aY:0<D.length:=by rw[ao];simp
 have ak:=aj.ext (x8.trans X);refine⟨o,ak.bZ 1,A,L.box.bZ 0,A,L.box.bZ 0,?_⟩;have bB:=L.gr.bn;have a5:=L.ne;have a4:A.D∉d.size::o.D::j.size::b.size::e:=by
  simp only[aV,vt];have l:=λh:A.D∈o.D::j.size::b.size::e=>N (I:=c) (ad _) _ h;refine⟨a5,λh=>?_,λh=>?_,λh=>?_,λh=>?_⟩<;>have:=l (by simp[h])<;>omega
 have aw:fe (bG (d.size::o.D::j.size::b.size::e) v) A D:=L.gr.nF dS.mono a4 bh V;have G:∀{y K:E}{k aG:Nat},v.size<=y.size->J y K->k<v.size->af K k aG=af y k aG:=λh ah z=>gl ah V _;have sm:∀{y K:E},v.size<=y.size->J y K->eF [u.size,b.size,r.size] y K:=λh ah=>ah.dv λk z=>by simp at z;omega
 have T:d.size<v.size:=V;have C:u.size<v.size:=V;have i3:j.size<v.size:=V;refine(bN (o.D::j.size::b.size::e) (c1.ext (w8.trans X)) V).mono λ_ br⟨a',la,g,ga,ea,p⟩=>⟨sm (ad _) p,a',g,G (ad _) p T,G (ad _) p C,G (ad _) p T,G (ad _) p C,G (ad _) p C,G (ad _) p i3,?_⟩;subst ea;have H:=p.size;refine(bN (o.D::j.size::b.size::e) (c2.ext ((w8.trans X).trans p)) V).mono λ_ a0⟨b',lb,g,gb,eb,t⟩=>⟨sm H t,b',g,G H t T,G H t C,G H t T,G H t C,G H t i3,?_⟩;subst eb;have bF:=t.size;have aK:=p.trans t;refine(MU (m:=a0) (fe.ext aK (eS.le aw (bA _ _) λ_ _=>dS.le (bA _ _))) (q.params.length:Nat)).mono λ_ a1⟨rg,g,_,w⟩=>⟨sm V w,rg,g,G V w T,G V w C,G V w i3,?_⟩;have bH:=w.size;have Y:=aK.trans w;intro bs;have aT:fe (bG (o.D::j.size::b.size::e) a1) A D:=eS.le aw ((Y.df _).trans (iR _ λ_ h=>ai _ h)) λ_ _=>dS.le ((Y.df _).trans (iR _ λ_ h=>ai _ h));have XX:=(x8.trans X).trans Y;refine Gr.box (g:=[.s .nil,.s .nil,.i 0,.i 0,.s .nil]) (j:=1) (y:=88) (i:=[.s dd,.s o]) (w:=⟨q.params,q.cR,q.aS,rg,D⟩) lj.mono bh (ar.ext lj.mono XX) ((xM.trans XX).fz []) ⟨a',b',A,rfl,(GI.done ga (N V) V).le ((t.trans w).df _),(GI.done gb (N V) V).le (w.df _),aT⟩ V (ak.ext Y) aL bh ⟨V,aL⟩ (λf l=>?_) λr' m' g' B' f' z' q'=>a6 r' m' _ g' B' f'.ext ⟨q3,ba,aY,by show D.length<=_;omega,a7,a8⟩
 simp at l;omega
section
def Mn{α:Type}(T:E->O->O->α->Prop):Prop:=∀M a b c x,Le M a->T M b c x->T a b c x
def PP{α:Type}(T:E->O->O->α->Prop)(U:α->Prop)(S:List Nat)(d:Nat)(e:O)(m:E)(P:Nat)(v:Value)(a:E):Prop:=∃b c x,v=.agg #[O.v b,O.v c]/\T (bG S a) b c x/\U x/\Rd d e P a/\Fz [d] m a
def NT(m:E)(a b:O)(x:List bz×List gN):Prop:=eK m a b x.1 x.2
def IT(m:E)(a b:O)(x:List bz×List dy):Prop:=cw m a x.1/\iG m b x.2
def GT(m:E)(a b:O)(x:List bz×List (dy×Ex)):Prop:=cw m a x.1/\WH m b x.2
def UN(c:Prop)(W:Nat)(x:List bz×List gN):Prop:=yi x.1 x.2 c W/\x.1∈rI
def UI(x:List bz×List dy):Prop:=DJ x.2/\x.1∈rI
def NT.mn:Mn NT:=λ_ _ _ _ _ h t=>eK.le t h
def IT.mn:Mn IT:=λ_ _ _ _ _ h t=>⟨t.1.le h,iG.le h t.2⟩
structure BS(B:List Nat)(rb:Nat)(bs:O)(m:E)(Q:Nat)(M:E):Prop where
 s:Rs rb bs m Q M
 gF:∀c∈B,m.size<=c/\c<M.size
section
variable{α:Type}{T:E->O->O->α->Prop}{U:α->Prop}{S B L:List Nat}{d Q h j k f t:Nat}{g a b:O}{m M e:E}{x:α}{i:List Value}
def BS.hS(h:BS B d g m Q M)(a:∀c∈S,c<m.size):∀c∈B++S,c<M.size:=λc b=>(List.mem_append.1 b).elim (λe=>(h.gF c e).2) λe=>aO (a c e) h.s.f.size
def BS.to(a:BS B d g m Q M)(f:Fz [d] M e)(r:Rd d g h e):BS B d g m h e:=⟨a.s.to f r,λc b=>⟨(a.gF c b).1,aO (a.gF c b).2 f.size⟩⟩
def BS.lw(h:BS B d g m Q M)(a:d<m.size)(c:∀b∈L,b∈B):Lw d L M:=Go.Proofs.YtkicoahejfbjhaaGreat.lw a λb e=>h.gF b (c b e)
def BS.call(c:BS B d g m Q M)(o:d<m.size)(p:∀b∈L,b∈B)(l:aN cg f i M (PP T U (B++S) d g M h)){K:O->O->E->Prop}
 (q:∀a b x e,U x->T (bG (B++S) e) a b x->BS B d g m h e->Fz [d] M e->K a b e):aN cg f i M λv e=>eF L M e/\∃j k:O,v=.agg #[O.v j,O.v k]/\K j k e:=
 l.mono λ_ e⟨a,b,x,n,t,u,r,f⟩=>⟨(c.lw o p).dv f,a,b,n,q a b x e u t (c.to f r) f⟩
def BS.pick(h:BS B d g m Q M)(c:d<m.size)(k:Q<=10^16)(j:∀b∈L,b∈B)(n:Int){K:Int->E->Prop}
 (l:∀i e,0<=i->(i<n\/i=0)->BS B d g m (Q+1) e->Fz [d] M e->K i e):aN cg 44 [vp d 0,vi n] M λv e=>eF L M e/\∃i:Int,v=vi i/\K i e:=
 (cp h.s.r k n).mono λ_ e⟨i,a,o,p,r,f⟩=>⟨(h.lw c j).dv f,i,a,l i e o p (h.to f r) f⟩
def BS.box{m1 m2:E}{z l:List Ce}(h:BS B d g m Q M)(f:m1=M.push (.cells (bt z) t))(i:m2=ah m1 M.size 0 l)(n:l.length=z.length):BS (M.size::B) d g m Q m2/\Le (bG (B++S) M) (bG (M.size::B++S) m2)/\cE m2 M.size t l:=by
 let⟨x,a,z⟩:=kE f i n;have o:=h.s.f.size;refine⟨⟨h.s.ext x,λc k=>?_⟩,x.bG λb j=>(List.mem_cons.1 j).elim (λh=>Or.inr V) Or.inl,a⟩;rcases List.mem_cons.1 k with e|e
 .omega
 .have:=h.gF c e;omega
def BS.put(h:BS B d g m Q M)(b:Rd d g j m)(a:k∈B)(l:List Ce):BS B d g m Q (ah M k 0 l)/\Le (bG (B++S) M) (bG (B++S) (ah M k 0 l)):=
 ⟨⟨h.s.put b (h.gF k a).1 _ _,λc e=>by rw[aw];exact h.gF c e⟩,cA (by simp[a]) λ_ h=>h⟩
def BS.le(a:d∈S)(f:Fz [d] M e):Le (bG (B++S) M) (bG (B++S) e):=f.df (by simp[a])
def BS.iH(f:BS B d g m Q M)(o:Mn T)(i:Rd d g j m)(p:k∈B)(q:T (bG (B++S) M) a b x)(r:U x)(n:Q<=h)(l:List Ce):PP T U S d g m h (.agg #[O.v a,O.v b]) (ah M k 0 l):=
 have⟨c,e⟩:=f.put (S:=S) i p l
 ⟨a,b,x,rfl,o _ _ _ _ _ (e.trans (iR _ λ_=>eD _)) q,r,c.s.r.mono n,c.s.f⟩
def BS.lJ(a:Rd d g Q m)(o:Obj):BS [m.size] d g m Q (m.push o)/\Le (bG S m) (bG ([m.size]++S) (m.push o)):=⟨⟨⟨(J.push m o).fz _,a.ext (J.push m o)⟩,aL⟩,ta (J.push m o) (ad _)⟩
def Lc{a:List bz}{c:Prop}{W:Nat}(j:uP f i M S a λb=>yi a b c W)(hd:a∈rI)(r:Rd d g Q M):aN cg f i M (PP NT (UN c W) S d g M Q):=
 j.mono λ_ _⟨e,k,b,h,n,o,x⟩=>⟨e,k,(a,b),h,n,⟨o,hd⟩,r.ext x,x.fz _⟩
def VK{a:List bz}(h:Qo f i M S a DJ)(hd:a∈rI)(r:Rd d g Q M):aN cg f i M (PP IT UI S d g M Q):=
 h.mono λ_ _⟨b,j,k,e,n,c,o,x⟩=>⟨b,j,(a,k),e,⟨n,c⟩,⟨o,hd⟩,r.ext x,x.fz _⟩
end
section
variable{a:List Nat}{m:E}{b P:Nat}{c:O}
def IH(f:∀d∈a,d<m.size)(j:b∈a)(d:Rd b c P m)(D:P+1000+4*(300+40*Cg 18)<=10^16):aN cg 223 [vp b 0] m (PP NT (UN False 95) a b c m (P+11+4*(300+40*Cg 18))):=by
 apply Bb (b,0);simp -zeta only[aC,aB];have e:=d.lt;intro k;obtain⟨b1,-⟩:BS [m.size] b c m P k/\True:=⟨(BS.lJ (S:=a) d _).1,trivial⟩;clear_value k;refine b1.call (T:=GT) (U:=λx=>WJ x.1 x.2) (S:=a) e (λ_ h=>h) ((Ev (b1.hS f) (by simp[j]) b1.s.r V).mono λv M⟨i,p,g,t,l,n,o,q,r,s⟩=>⟨i,p,(g,t),l,⟨n,o⟩,q,r,s⟩) λi p x F u t b2 A=>?_;refine b2.call (S:=a) e (λ_ h=>h) (Lc (IA (b2.hS f) (t.1.le (bA _ _)) (eS.le t.2 (bA _ _) λ_ _=>Ze.mono.le (bA _ _)) u) u.gp.ds b2.s.r) λy J L G g t3 b3 B=>?_;intro r l;obtain⟨b5,q,-⟩:=b3.box (S:=a) (m1:=r) (m2:=l) rfl rfl rfl;clear_value l;have s:=NT.mn _ _ _ _ _ q t3;refine b5.pick e V (λ_ h=>h) 3 λE H _ _ b6 o=>?_;have n:=NT.mn _ _ _ _ _ (BS.le j o) s;refine⟨λ_=>?_,λ_=>b6.iH NT.mn d aL n g V _⟩;exact b6.call (S:=a) e (λ_ h=>h) (Lc (JV (b6.hS f) (n.le (bA _ _)) V g.1) g.2 b6.s.r) λz K M I w v h C=>h.iH NT.mn d aL v w V _
def Eo(j:∀d∈a,d<m.size)(g:b∈a)(d:Rd b c P m)(M:P+1000+4*(300+40*Cg 18)<=10^16):aN cg 209 [vp b 0] m (PP NT (UN True 104500) a b c m (P+12+4*(300+40*Cg 18))):=by
 apply xc (b,0);simp -zeta only[aC,aB];have f:=d.lt;intro n;obtain⟨b1,-⟩:BS [m.size] b c m P n/\True:=⟨(BS.lJ (S:=a) d _).1,trivial⟩;clear_value n;refine b1.call (S:=a) f (λ_ h=>h) (IH (b1.hS j) (by simp[g]) b1.s.r V) λI U X Q i t2 b2 K=>?_;intro x o;obtain⟨b4,w,-⟩:=b2.box (S:=a) (m1:=x) (m2:=o) rfl rfl rfl;clear_value o;have q:=NT.mn _ _ _ _ _ w t2;refine b4.call (S:=a) f (λ_ h=>h) (Lc (Lz (b4.hS j) (q.le (bA _ _)) i.1) i.2 b4.s.r) λJ W Y y G B b5 u=>?_;intro z p;obtain⟨r,l,-⟩:=b5.box (S:=a) (m1:=z) (m2:=p) rfl rfl rfl;clear_value p;have C:=NT.mn _ _ _ _ _ l B;refine r.pick f V (λ_ h=>h) 4 λN R _ _ e k=>?_;have D:=NT.mn _ _ _ _ _ (BS.le g k) C;refine⟨λ_=>?_,λ_=>e.iH NT.mn d aL D G V _⟩;have E:=NT.mn _ _ _ _ _ (((BS.le g u).trans l).trans (BS.le g k)) q;refine e.call (S:=a) f (λ_ h=>h) (Lc (P1 (e.hS j) (E.le (bA _ _)) i.1) i.2 e.s.r) λt A Z T H F s L=>?_;intro O;let⟨h,v⟩:=s.put (S:=a) d (by simp:y.size∈_) [.s t,.s A];exact h.iH NT.mn d aL (NT.mn _ _ _ _ _ v F) H V _
end
end
section
variable{c:Prop}
structure BF(S:List Nat)(rb:Nat)(bs:O)(m:E)(k Q W:Nat)(M:E):Prop where
 b:BS [k,m.size] rb bs m Q M
 x:∃d r x,cE M k na [.s d,.s r]/\NT (bG (k::m.size::S) M) d r x/\UN True W x
def UN.mono{W W':Nat}{x:List bz×List gN}(h:UN c W x)(f:W<=W'):UN c W' x:=⟨⟨h.1.iV,λq g=>let⟨a,b,d,e⟩:=h.1.dz q g;⟨a,b,d,bH e f⟩⟩,h.2⟩
section
variable{e h:List Nat}{d k Q Q' W W' i f:Nat}{g:O}{a M b:E}{K:E->Prop}{j:O->O->List Value}
def BF.mono(h:BF e d g a k Q W M)(j:Q<=Q')(l:W<=W'):BF e d g a k Q' W' M:=⟨⟨⟨h.b.s.f,h.b.s.r.mono j⟩,h.b.gF⟩,let⟨i,r,x,b,f,c⟩:=h.x;⟨i,r,x,b,f,c.mono l⟩⟩
def BF.to(i:BF e d g a k Q W M)(n:d<a.size)(m:d∈e)(f:Fz [d] M b)(j:BS [k,a.size] d g a Q' b):BF e d g a k Q' W b:=
 let⟨l,r,x,h,t,c⟩:=i.x
 ⟨j,l,r,x,h.congr (f.same k h.lt (by have:=i.b.gF k aL;simp;omega)),NT.mn _ _ _ _ _ (BS.le (B:=[k,a.size]) m f) t,c⟩
def BF.pick(j:BF e d g a k Q W M)(l:d<a.size)(q:d∈e)(o:Q<=10^16)(m:∀c∈h,c∈[k,a.size])(n:Int){K:Int->E->Prop}
 (p:∀i b,BF e d g a k (Q+1) W b->K i b):aN cg 44 [vp d 0,vi n] M λv b=>eF h M b/\∃i:Int,v=vi i/\K i b:=
 j.b.pick l o m n λi b _ _ c f=>p i b (j.to l q f c)
def BF.Zi(q:BF e d g a k Q W M)(w:Rd d g i a)(F:k≠a.size)(y:∀p∈h,p=a.size)
 (c:∀l n x,NT (bG (k::a.size::e) M) l n x->UN True W x->aN cg f (j l n) M (PP NT (UN True W') (k::a.size::e) d g M Q'))
 (I:∀b,BF e d g a k Q' W' b->K b):∃z:O,af M k 0=some (O.v z)/\∃A:O,af M k 1=some (O.v A)/\aN cg f (j z A) M λT b=>eF h M b/\∃t u:O,T=.agg #[O.v t,O.v u]/\fJ b k 0 2/\(eF h b (ah b k 0 [.s t,.s u])/\K (ah b k 0 [.s t,.s u])):=by
 let⟨l,n,x,B,J,P⟩:=q.x
 have G:=w.lt
 have V:=q.b.gF k aL
 refine⟨l,B.bZ 0,n,B.bZ 1,q.b.call (S:=e) (L:=h) G (λp s=>by simp[y p s]) (c l n x J P) λp s U b R N C D=>?_⟩
 have v:=B.congr (D.same k B.lt bE)
 let⟨b2,H⟩:=C.put (S:=e) w (by simp:k∈_) [.s p,.s s]
 exact⟨v.fJ aL,λc E=>bd _ _ _ _ (by rw[y c E];exact kC F),I _ ⟨b2,p,s,U,cE.ah (m:=b) (o:=0) (r:=[.s p,.s s]) v,NT.mn _ _ _ _ _ H N,R⟩⟩
def BF.aT(h:BF e d g a k Q W M)(j:Rd d g i a)(l:Q<=Q'):∃b:O,af M k 0=some (O.v b)/\∃c:O,af M k 1=some (O.v c)/\PP NT (UN True W) e d g a Q' (.agg #[O.v b,O.v c]) (ah M a.size 0 [.s b,.s c]):=
 let⟨f,r,_,B,t,u⟩:=h.x
 ⟨f,B.bZ 0,r,B.bZ 1,h.b.iH NT.mn j aL t u l _⟩
end
section
variable{a:List Nat}{b:E}{d P:Nat}{e:O}
def Yz{h:Nat}{g:List Value}{M:E}{Q:Nat}{b:List bz}{W:Nat}(k:SN h g M a d e Q b λf=>yi b f c W)(hd:b∈rI):aN cg h g M (PP NT (UN c W) a d e M Q):=
 k.mono λ_ _⟨i,l,f,j,n,o,r,x⟩=>⟨i,l,(b,f),j,n,⟨o,hd⟩,r,x⟩
def Rz(i:∀c∈a,c<b.size)(k:d∈a)(g:Rd d e P b)(h:P+4<=10^16){W:Nat}(j:W<=200000000000)(f r:O)(x:List bz×List gN)(t:NT (bG a b) f r x)(u:UN True W x):aN cg 210 [vp d 0,.agg #[O.v f,O.v r]] b (PP NT (UN True (W+4)) a d e b (P+4)):=
 Yz (PZ i k g h t u.1 j) u.2
def Cq(z:∀c∈a,c<b.size)(l:d∈a)(g:Rd d e P b)(Z:P+1000+4*(300+40*Cg 18)<=10^16):aN cg 165 [vp d 0] b (PP NT (UN True 98289774148) a d e b (P+24+4*(300+40*Cg 18))):=by
 apply vY (d,0);simp -zeta only[aC,aB];have k:=g.lt;intro q;have z1:q.size=b.size+1:=by simp[q]
 obtain⟨b1,-⟩:BS [b.size] d e b P q/\True:=⟨(BS.lJ (S:=a) g _).1,trivial⟩;clear_value q;refine b1.call (S:=a) k (λ_ h=>h) (Eo (b1.hS z) (by simp[l]) b1.s.r V) λD H J f I t2 b2 K=>?_;have z2:=K.size;intro N G;let⟨b4,L,C⟩:=b2.box (S:=a) (m1:=N) (m2:=G) rfl rfl rfl;clear_value G;have X:=NT.mn _ _ _ _ _ L t2;have p:f.size≠b.size:=V;have n:∀{M:E}{Q W:Nat},BF a d e b f.size Q W M->∀c∈f.size::b.size::a,c<M.size:=λh=>h.b.hS z;have F:d∈f.size::b.size::a:=by simp[l]
 refine⟨BF a d e b f.size (P+17+4*(300+40*Cg 18)) 104504,?_,λR U=>?_⟩
 .refine b4.pick k V (λ_ h=>h) 4 λA m5 _ _ b5 t=>?_;have u:=NT.mn _ _ _ _ _ (BS.le (B:=[f.size,b.size]) l t) X;have s:=C.congr (t.same _ C.lt bE);refine⟨λ_=>b5.call (S:=a) k (λ_ h=>h) (Rz (b5.hS z) F b5.s.r V V D H J u I) λi j x O Y T b6 w=>?_,λ_=>BF.mono ⟨b5,D,H,J,s,u,I⟩ V V⟩;intro R;let⟨v,y⟩:=b6.put (S:=a) g (by simp:f.size∈_) [.s i,.s j];exact BF.mono ⟨v,i,j,x,cE.ah (m:=O) (o:=0) (r:=[.s i,.s j]) (s.congr (w.same _ s.lt bE)),NT.mn _ _ _ _ _ y T,Y⟩ V V
 refine⟨BF a d e b f.size (P+18+4*(300+40*Cg 18)) 10921086016,?_,λY O=>?_⟩
 .refine U.pick k l V aL 4 λA v s=>⟨λ_=>s.Zi g p aL (λi j x t u=>Lc (Ie (n s) (t.le (bA _ _)) V u.1) u.2 s.b.s.r) λy h=>h.mono V V,λ_=>s.mono V V⟩
 refine O.pick k l V aL 3 λA aa s=>?_;refine⟨BF a d e b f.size (P+19+4*(300+40*Cg 18)) 98289774144,⟨λ_=>s.Zi g p aL (λi j x t u=>Lc (EL (n s) (t.le (bA _ _)) V u.1) u.2 s.b.s.r) λy h=>h.mono V V,λ_=>s.mono V V⟩,λab v=>?_⟩;refine⟨BF a d e b f.size (P+19+4*(300+40*Cg 18)) 98289774144,⟨λ_=>v.Zi g p aL (λi j x t u=>Lc (MV (n v) (t.le (bA _ _)) V u.1) u.2 v.b.s.r) λy h=>h.mono V V,λ_=>v.mono V V⟩,λac T=>?_⟩;refine T.pick k l V aL 6 λA ad w=>⟨λ_=>w.Zi g p aL (λi j x t u=>Rz (n w) F w.b.s.r V V i j x t u) λy h=>h.aT g V,λ_=>(w.mono (Q':=P+24+4*(300+40*Cg 18)) (W':=98289774148) V V).aT g V⟩
def Im(j:∀c∈a,c<b.size)(l:d∈a)(f:Rd d e P b)(B:P+1000+4*(300+40*Cg 18)<=10^16):aN cg 92 [vp d 0] b (PP IT UI a d e b (P+25+4*(300+40*Cg 18))):=by
 apply AH (d,0);simp -zeta only[aC,aB];have g:=f.lt;intro m;obtain⟨b1,-⟩:BS [b.size] d e b P m/\True:=⟨(BS.lJ (S:=a) f _).1,trivial⟩;clear_value m;refine b1.call (S:=a) g (λ_ h=>h) (Cq (b1.hS j) (by simp[l]) b1.s.r V) λv H K D o t2 b2 y=>?_;refine b2.call (S:=a) g (λ_ h=>h) (VK (LH (b2.hS j) (t2.le (bA _ _)) o.1 V) o.2 b2.s.r) λw I L E i t3 b3 z=>?_;intro r n;obtain⟨b5,q,-⟩:=b3.box (S:=a) (m1:=r) (m2:=n) rfl rfl rfl;clear_value n;have s:=IT.mn _ _ _ _ _ q t3;refine b5.pick g V (λ_ h=>h) 3 λC F _ _ b6 p=>?_;have k:=IT.mn _ _ _ _ _ (BS.le l p) s;refine⟨λ_=>?_,λ_=>b6.iH IT.mn f aL k i V _⟩;exact b6.call (S:=a) g (λ_ h=>h) (VK (IL (b6.hS j) (k.1.le (bA _ _)) (sV i.2) (iG.le (bA _ _) k.2) i.1) i.2 b6.s.r) λx J M G u t h A=>h.iH IT.mn f aL t u V _
end
end
section
variable{x:Instr}
section
variable{S:List Nat}{m M:E}{a P Q:Nat}{b:O}
def zY(h:Rs a b m Q M)(i:Q<=10^16)(c:List Int){d:List Ce}{n:Nat}(j:d=c.map Ce.i)(p:n=c.length)(l:0<c.length/\c.length<=100):
 aN cg 43 [vp a 0,O.v (.mk M.size 0 n n)] (M.push (.cells (bt d) aA)) λv e=>∃t:Int,v=vi t/\t∈c/\Rs a b m (Q+1) e/\Fz [a] (M.push (.cells (bt d) aA)) e:=by
 have x:=J.push M (.cells (bt d) aA)
 have o:=h.r.lt
 refine(kv (h.ext x).r i (ap.lit aA c (by simp;exact o) j p V) l.1).mono λv e⟨q,g,k,r,f⟩=>⟨q,g,k,(h.ext x).to f r,f⟩
def _root_.Go.Vc.Gr.KW{b c:E}{s:O}{l:List Int}(h:GI S b M s l)(f:Fz [a] M c)(d:a<b.size):GI S b c s l:=have:=h.bn;GI.jw h (f.same _ this.2 bE)
def qF(n:Rd a b P m)(hP:P+10<=10^16){D:O}{l:List Int}(S:ap m D l)(hb:l.length<=10^12):aN cg 95 [vp a 0,O.v D] m λaa o=>∃s c,aa=O.v s/\GI [] m o s c/\c.length<=l.length+1/\(∀w∈c,w∈l\/-1<=w/\w<=1001)/\Rd a b (P+3) o/\Fz [a] m o:=by
 apply sM (a,0);have g:=n.lt;refine(bN [] S V).mono λ_ W⟨s,c,e,j,I,G⟩=>⟨s,e,?_⟩;subst I;have ab:=j.len bh;have p:Rs a b m P W:=⟨G.fz _,n.ext G⟩;have iH:∀{M:E}{Q:Nat},Rs a b m Q M->Q<=P+2->GI [] m M s l->aN cg 43 [vp a 0,O.v (.mk M.size 0 5 5)] (M.push (.cells (bt [.i 0,.i 1,.i 2,.i (-1),.i 1000]) aA)) λx r=>∃i:Int,x=vi i/\
  jK (r.push (.cells (bt [.i i]) aA)) aA [.i 0] 8 s (.mk r.size 0 1 1) λt q=>∃s c,O.v t=O.v s/\GI [] m q s c/\c.length<=l.length+1/\(∀w∈c,w∈l\/-1<=w/\w<=1001)/\Rd a b (P+3) q/\Fz [a] m q:=λ{M Q} rM hQ gM=>
  (zY rM V [0,1,2,-1,1000] rfl rfl aL).mono λ_ r⟨t,e,u,f,d⟩=>⟨t,e,by
   have g2:=(gM.ext (J.push M _)).KW d g;refine GI.kH g2 f.f aL V λx o L z z' Y=>⟨x,_,rfl,L,aL,λw v=>?_,?_,z⟩
   .rcases List.mem_append.1 v with h|h
    .exact Or.inl h
    .simp at h u;exact Or.inr V
   .exact(n.MD f.r z (Y a f.r.lt (oh g2.bn))).mono V⟩
 refine⟨λR=>?_,λ_=>iH p V j⟩;simp only[kD,ar]at R;refine(cp p.r V 2).mono λ_ m2⟨T,e,_,_,y,d⟩=>⟨T,e,λ_=>?_,λ_=>iH (p.to d y) V (j.KW d g)⟩;have f:=p.to d y;refine(cp f.r V (s.len:Int)).mono λ_ X⟨i,e,U,k1,H,A⟩=>⟨i,e,?_⟩;refine(zY (f.to A H) V [0,1,-1,7,1000,1001] rfl rfl aL).mono λ_ m5⟨t,e,u,F,K⟩=>⟨t,e,U,V,?_⟩;have C:=(((j.KW d g).KW A g).ext (J.push X _)).KW K g;let⟨w,N,B,Z⟩:=C.set F.f (k:=i.toNat) V t;refine⟨w,s,_,rfl,N,aL,λw v=>?_,(n.MD F.r B (Z a (oh C.bn))).mono V,B⟩;rcases cB v with h|h
 .exact Or.inl h
 .simp at u;exact Or.inr V
def IX(Z:List Nat)(a:Nat)(b:O)(m:E)(P:Nat)(U:Instr->Prop)(v:Value)(c:E):Prop:=∃x d j,v=VL x d j/\ap (bG Z c) d x.args/\ap (bG Z c) j x.eL/\U x/\Rd a b P c/\Fz [a] m c
def wc(S:List Nat){p t:O}(v:ap m p x.args)(w:ap m t x.eL)(s:x.args.length<=10^12/\x.eL.length<=10^12):
 aN cg 215 [VL x p t] m λz l=>∃c d,z=VL x c d/\GI S m l c x.args/\GI S m l d x.eL/\c.D≠d.D/\J m l:=by
 apply ry
 simp -zeta only[aC,aB]
 intro i j
 let⟨e,g⟩:=dD (a:=i) (c:=j) rfl rfl
 have F:i.size=m.size+1:=by simp[i]
 clear_value j
 have b:∀{M n:E},J j M->J M n->∀o,af n m.size o=af M m.size o:=λh u o=>aJ (u.same _ (h.lt (g _ aL))) o
 refine(bN S (v.ext e) s.1).aH (J.az j) g λc _ B q k a _=>⟨_,rfl,b (J.az _) a _,b (J.az _) a _,b (J.az _) a _,b (J.az _) a _,b (J.az _) a _,?_⟩
 subst k
 refine(bN S (w.ext (e.trans a)) s.2).aH a g λd _ C r k f y=>⟨_,rfl,b a f _,b a f _,b a f _,b a f _,?_⟩
 subst k
 intro D
 have G:=q.bn;have H:=r.bn
 have A:=g i.size aL
 exact⟨c,d,rfl,((q.ext f).jw (bd _ _ _ _ V)).cx (λ_ h=>h) e.size,(r.jw (bd _ _ _ _ V)).cx (λ_ h=>h) (e.trans a).size,V,(e.trans y).ah V _ _⟩
end
structure BI(a0:E)(k rb:Nat)(bs:O)(m:E)(Q:Nat)(M:E)(a j:O)(l l':List Int):Prop where
 ga:GI [] a0 M a l
 gj:GI [] a0 M j l'
 ne:a.D≠j.D
 s:Rs rb bs m Q M
 lo:m.size+2<=a0.size/\l.length<=1000000000001/\l'.length<=1000000000001
 hi:a.D≠k/\j.D≠k/\m.size<=k/\k<M.size
section
variable{Z L:List Nat}{f m M c:E}{b k P g Q h:Nat}{d a j:O}{l e:List Int}
def BI.to(g:BI f k b d m Q M a j l e)(n:b<m.size)(i:Fz [b] M c)(r:Rd b d h c):BI f k b d m h c a j l e:=
 have:=g.lo
 ⟨g.ga.KW i V,g.gj.KW i V,g.ne,g.s.to i r,g.lo,g.hi.1,g.hi.2.1,g.hi.2.2.1,aO g.hi.2.2.2 i.size⟩
def BI.put(h:BI f k b d m Q M a j l e)(g:Rd b d P m)(o:Nat)(c:List Ce):BI f k b d m Q (ah M k o c) a j l e:=
 have:=h.lo;have:=h.hi;have:=h.ga.bn
 ⟨GI.jw h.ga (bd _ _ _ _ V),GI.jw h.gj (bd _ _ _ _ V),h.ne,h.s.put g V _ _,h.lo,by rw[aw];exact h.hi⟩
def BI.iH{U:Instr->Prop}(h:BI f k b d m Q M a j l e)(v:Rd b d P m)(t:∀c∈Z,c<m.size){i:Nat}(y:i=m.size+1)(w:Q<=g){r n q p:Int}(x:U ⟨r,n,q,p,l,e⟩)(s:List Ce):IX Z b d m g U (.agg #[vi r,vi n,vi q,vi p,O.v a,O.v j]) (ah M i 0 s):=by
 have:=h.lo;have:=h.hi;have z:=h.ga.bn;have A:=h.gj.bn;have u:=h.s.put v (k:=i) V 0 s;exact⟨⟨r,n,q,p,l,e⟩,a,j,rfl,Gr.done tV.mono (GI.any (GI.jw h.ga (bd _ _ _ _ V))) (λc o=>oh (t c o)) bh (bH h.lo.2.1 bh),Gr.done tV.mono (GI.any (GI.jw h.gj (bd _ _ _ _ V))) (λc o=>oh (t c o)) bh (bH h.lo.2.2 bh),x,u.r.mono w,u.f⟩
def BI.pick(h:BI f k b d m Q M a j l e)(r:b<m.size)(t:Q<=10^16)(s:∀g∈L,m.size<=g/\g<=k)(p:Int){K:Int->E->Prop}
 (v:∀i c,0<=i->(i<p\/i=0)->BI f k b d m (Q+1) c a j l e->(∀o,af c k o=af M k o)->Fz [b] M c->K i c):aN cg 44 [vp b 0,vi p] M λz c=>eF L M c/\∃i:Int,z=vi i/\K i c:=
 have:=h.lo;have:=h.hi;have:=h.ga.bn
 (cp h.s.r t p).mono λ_ c⟨i,q,w,x,y,n⟩=>⟨n.dv λg u=>by have:=s g u;simp;omega,i,q,v i c w x (h.to r n y) (λo=>aJ (n.same k h.hi.2.2.2 bE) o) n⟩
end
def SH(x y:Instr):Prop:=(∀k,Pe k x->Pe k y)/\y.args.length<=10^12/\y.eL.length<=10^12
def Ib{Z:List Nat}{m:E}{g P:Nat}{t F H:O}(d:∀c∈Z,c<m.size)(a:Rd g t P m)(hP:P+10<=10^16)(R:ap (bG [g] m) F x.args)(hj:ap m H x.eL)(b:x.args.length<=10^12/\x.eL.length<=10^12)(hx:∃I,Pe I x):
 aN cg 168 [vp g 0,VL x F H] m (IX Z g t m (P+3) (SH x)):=by
 apply Ao (g,0)
 simp(config:={maxSteps:=1000000}) -zeta only[aC,aB]
 have p:=a.lt
 intro r u
 let⟨W,hl⟩:=dD (a:=r) (c:=u) rfl rfl
 have i:r.size=m.size+1:=by simp[r]
 have s2:u.size=m.size+2:=by simp[u,i]
 clear_value u
 clear_value r
 refine(wc [] ((R.le (bA _ _)).ext W) (hj.ext W) b).mono λ_ w⟨s,K,e,ga,gj,T,X⟩=>⟨X.dv hl,_,_,_,_,_,_,e,?_⟩
 intro m4 U
 obtain⟨N,-,z5⟩:=kE (M:=w) (d:=m4) (c:=U) rfl rfl rfl
 clear_value U
 have ya:=ga.bn;have yj:=gj.bn
 have X5:=(W.trans X).trans N
 have b5:BI u w.size g t m P U s K x.args x.eL:=⟨ga.ext N,gj.ext N,T,⟨X5.fz _,a.ext X5⟩,⟨V,oU b.1,oU b.2⟩,V,V,V,V⟩
 have o:∀n∈[w.size,r.size,m.size],m.size<=n/\n<=w.size:=bE
 let⟨q,z,C,A,j,B⟩:=x
 have yB:SH ⟨q,z,C,A,j,B⟩ ⟨q,z,C,A,j,B⟩:=⟨λ_ h=>h,b⟩
 refine b5.pick p V o 5 λae f _ _ b6 _ f6=>?_
 have y:∀{Y:E}{aa:Nat},BI u w.size g t m aa Y s K j B->aa<=P+3->IX Z g t m (P+3) (SH ⟨q,z,C,A,j,B⟩) (.agg #[vi q,vi z,vi C,vi A,O.v s,O.v K]) (ah Y r.size 0 [.i q,.i z,.i C,.i A,.s s,.s K]):=λh hQ=>h.iH a d i hQ yB _
 have ab:q=16\/q=17->(0:Int)<=0/\(0:Int)<(F.len:Int)/\∃v:Int,af f F.D (F.off+Int.toNat 0*1)=some (vi v)/\IX Z g t m (P+3) (SH ⟨q,z,C,A,j,B⟩) (.agg #[vi 15,vi 0,vi 0,vi 0,O.v (.mk f.size 0 1 1),O.v .nil]) (ah (f.push (.cells (bt [.i v]) aA)) r.size 0 [.i 15,.i 0,.i 0,.i 0,.s (.mk f.size 0 1 1),.s .nil]):=λe=>by
  have hn:0<j.length:=let⟨_,h⟩:=hx;h.arg bE;have S:=R.len;let⟨D,hy⟩:=cG j 0 hn;have z6:=b6.hi;have r7:=(b6.s.ext (J.push f (.cells (bt [.i D]) aA))).put a (k:=r.size) V 0 [.i 15,.i 0,.i 0,.i 0,.s (.mk f.size 0 1 1),.s .nil];have Q:GI [] f (f.push (.cells (bt [.i D]) aA)) (.mk f.size 0 1 1) [D]:=Gr.lit (f:=[[.i D]]) tV.mono (ad _) aL rfl rfl ⟨rfl,aL,λH cs x G L=>by
   cases H with
   |zero=>simp at G L;rw[<-G,<-L];rfl
   |succ H=>simp at G⟩
  exact⟨dg 0,by simp at S;omega,D,(eP.1 ((R.le (b6.s.f.df aL)).aF hy)).2,⟨15,0,0,0,[D],[]⟩,_,.nil,rfl,GI.done (GI.any (GI.jw Q (bd _ _ _ _ bE))) (λc L=>oh (d c L)) aL,⟨rfl,dL _,aL,aL⟩,⟨λ_ _=>⟨sx,sx⟩,aL,aL⟩,r7.r.mono V,r7.f⟩
 refine⟨λ_=>⟨λe=>?_,λ_=>⟨λe=>(b6.put a _ _).iH a d i V ⟨λ_ _=>⟨sx,sx⟩,b⟩ _,λ_=>⟨λe=>?_,λ_=>y b6 V⟩⟩⟩,λ_=>⟨λ_=>⟨λG=>?_,λ_=>y b6 V⟩,λ_=>⟨λ_=>?_,λ_=>⟨λ_=>⟨λe=>ab (Or.inl (by simpa using e)),λ_=>⟨λe=>ab (Or.inr (by simpa using e)),λ_=>⟨λe=>b6.pick p V o 4 λv L _ _ c _ _=>(c.put a _ _).iH a d i V ⟨λ_ h=>⟨h.ME,h.arg⟩,b⟩ _,λ_=>y b6 V⟩⟩⟩,λ_=>⟨λ_=>⟨λe=>?_,λ_=>⟨λe=>?_,λ_=>y b6 V⟩⟩,λ_=>y b6 V⟩⟩⟩⟩⟩
 .simp only[aG]at e
  exact(b6.put a _ _).iH a d i V ⟨λ_ _=>⟨sx,sx⟩,b⟩ _
 .simp only[aG]at e
  exact(b6.put a _ _).iH a d i V ⟨λ_ h=>⟨sx,λ_=>h.arg (by simp[e])⟩,b⟩ _
 .simp only[kD,ar]at G
  have S:=b6.ga.len bh
  refine b6.pick p V o (s.len:Int) λI m7 k0 k1 b7 Q f7=>⟨Q 4,b7.pick p V o 4 λv L _ _ c g8 f8=>⟨g8 4,k0,V,?_⟩⟩
  let⟨ac,g9,f9,q9⟩:=GI.set c.ga (((((X.trans N).fz [g]).trans f6).trans f7).trans f8) (k:=I.toNat) (by show I.toNat<j.length;have:s.len=j.length:=S;omega) v
  have yb:=c.hi
  refine⟨ac,λn b=>q9 n (by have:=o n b;simp at b;omega),BI.iH (k:=w.size) (l:=j.set I.toNat v) (e:=B) ⟨g9,GI.jw c.gj (q9 _ (kC T)),T,⟨c.s.f.ah (Or.inr V) _ _,a.ah c.s.r c.s.f V _ _⟩,⟨V,by simpa using oU b.1,oU b.2⟩,V,V,V,by rw[aw];omega⟩ a d i V ⟨λ_ h=>⟨h.ME,λe=>by simpa using h.arg e⟩,by simpa using b⟩ _⟩
 .refine(xC q f).any.mono λ_ m7⟨n,e,I⟩=>⟨I.dv λn b=>O6 (o n b) b6.hi,n,e,λ_=>?_,λ_=>y (b6.to p (I.fz _) (b6.s.r.ext I)) V⟩
  exact(b6.to p (I.fz _) (b6.s.r.ext I)).pick p V o 4 λv L _ _ c _ _=>(c.put a _ _).iH a d i V ⟨λ_ h=>⟨h.ME,h.arg⟩,b⟩ _
 .simp only[aG]at e
  exact b6.pick p V o 9 λv L _ _ c _ _=>(c.put a _ _).iH a d i V ⟨λ_ h=>⟨λh=>by simp[e]at h,h.arg⟩,b⟩ _
 .simp only[aG]at e
  exact b6.pick p V o 3 λv L _ _ c _ _=>(c.put a _ _).iH a d i V ⟨λ_ h=>⟨λh=>by simp[e]at h,h.arg⟩,b⟩ _
end
section
def RA(M:E)(c:List Ce)(x:dy×O):Prop:=∃a b,c=[.s a,.s b,.i x.1.aS,.i x.1.ak,.s x.2]/\ap M a x.1.params/\ap M b x.1.cR
def RA.mono:om 5 RA:=⟨λh⟨a,b,e,c,d⟩=>⟨a,b,e,c.le h,d.le h⟩,λ⟨_,_,e,_⟩=>by rw[e];rfl⟩
def hd(x:dy×O):dy×O:=({x.1 with dq:=[]},x.2)
abbrev Ks(l:List (dy×O)):List Nat:=l.map λx=>x.2.D
structure vv(S:List Nat)(m0 M:E)(dd q:O)(ds:List bz)(l:List (dy×O)):Prop where
 d:cw (bG (q.D::(Ks l++S)) M) dd ds
 g:Gr (Ks l++S) m0 M jz 5 RA q (l.map hd)
 c:∀x∈l,Gr (q.D::(Ks l++S)) m0 M dW 6 dS x.2 x.1.dq
 nd:(Ks l).Nodup
 lt:∀b∈S,b<M.size
 nq:q.D∉S
 nc:∀x∈l,x.2.D∉S
section
variable{S S' Y:List Nat}{b f M e:E}{c q:O}{d:List bz}{l:List (dy×O)}
def vv.kq(h:vv S b M c q d l):∀x∈l,x.2.D≠q.D:=λx a=>(h.c x a).Lb h.g bh
def vv.re(i:vv S b M c q d l)(o:Fz Y M e)(k:∀a∈Y,a∈S)(n:∀a∈S',(a∈S\/M.size<=a)/\a<e.size)(p:f.size<=b.size):vv S' f e c q d l:=by
 have t:=i.g.bn;have r:∀{a:Nat},a∈Ks l++S'->a∈Ks l++S\/M.size<=a:=λg=>by
  rcases List.mem_append.1 g with h|h
  .exact Or.inl (bI _ h)
  .exact(n _ h).1.imp (eD _) id
 have s:∀{a:Nat},a∈q.D::(Ks l++S')->a∈q.D::(Ks l++S)\/M.size<=a:=λg=>by
  rcases List.mem_cons.1 g with h|h
  .exact Or.inl (by simp[h])
  .exact(r h).imp (ai _) id
 refine⟨i.d.le (o.bG (λa g=>by simp[k a g]) λa g=>s g),Gr.cx RA.mono (i.g.re RA.mono o (λa g=>by simp[k a g]) (λj=>i.nq (k _ j)) λa g=>r g) (λa g=>Or.inl g) p,λx m=>Gr.cx dS.mono ((i.c x m).re dS.mono o (λa g=>by simp[k a g]) (λj=>i.nc x m (k _ j)) λa g=>s g) (λa g=>Or.inl g) p,i.nd,λa g=>(n a g).2,λj=>?_,λx m j=>?_⟩
 .rcases(n _ j).1 with h|h
  .exact i.nq h
  .omega
 .have:=(i.c x m).bn;rcases(n _ j).1 with h|h
  .exact i.nc x m h
  .omega
def vv.dq(h:vv S b M c q d l){y:dy×O}(a:y∈l)(j:y.1.dq.length<=10^12):fe (bG (q.D::S) M) y.2 y.1.dq:=
 have g:Gr (q.D::S) b M dW 6 dS y.2 y.1.dq:=(h.c y a).re dS.mono (Fz.az [] M) aL aL λi f=>Or.inl (by rcases List.mem_cons.1 f with e|e<;>simp[e])
 g.nF dS.mono (by simp;exact⟨h.kq y a,h.nc y a⟩) bh V
def vv.gr(h:vv S b M c q d l)(u:∀x∈l,x.1.dq.length<=10^12):Gr S b M jz 5 lj q (l.map (·.1)):=by
 let⟨v,n,z,r⟩:=h.g;refine⟨v,n,z,by simpa using r.len,r.size,λk m x t a=>?_⟩;rw[cJ]at a;cases f:l[k]? with
 |none=>simp[f]at a
 |some y=>
  simp[f]at a;subst a;let⟨j,g,e,o,p⟩:=r.dz k m (hd y) t (by simp[f]);have i:=aq f;have w:Le (bG (q.D::(Ks l++S)) M) (bG (q.D::S) M):=iR M λg s=>by rcases List.mem_cons.1 s with e|e<;>simp[e]
  exact⟨j,g,y.2,e,o.le w,p.le w,h.dq i (u y i)⟩
def vv.yD{L:List Nat}{j G:E}{t e ks:O}{p:dy}{h tb i:Nat}{bc:List Ce}{P:E->Prop}(n:vv S b M c q d l)(x:J M j)(Q:Gr (q.D::(Ks l++S)) G j dW 6 dS ks p.dq)(h8:M.size<=G.size)
 (ha:ap (bG (ks.D::q.D::(Ks l++S)) j) t p.params)(g:ap (bG (ks.D::q.D::(Ks l++S)) j) e p.cR)(Z:cE M h tb bc)(hi:i<bc.length)(ht:tb≠jz)(v:b.size<=h/\h∈S)(R:∀e∈L,e<j.size/\e≠h/\e≠q.D)(hl:l.length<=1000)(T:J b M)
 (hk:∀r k,vv S b k c r d (l++[(p,ks)])->cE k h tb (iZ bc i [.s r])->J b k->P k):
 af (j.push (.cells (bt [.s t,.s e,.i p.aS,.i p.ak,.s ks]) jz)) h i=af j h i/\
 jK (j.push (.cells (bt [.s t,.s e,.i p.aS,.i p.ak,.s ks]) jz)) jz [.s .nil,.s .nil,.i 0,.i 0,.s .nil] 88 q (.mk j.size 0 1 1) λr k=>eF L (j.push (.cells (bt [.s t,.s e,.i p.aS,.i p.ak,.s ks]) jz)) k/\fJ k h i 1/\(eF L k (ah k h i [.s r])/\P (ah k h i [.s r])):=by
 have z:=Z.ext x
 have U:=J.push j (.cells (bt [.s t,.s e,.i p.aS,.i p.ak,.s ks]) jz)
 have yk:=Q.bn
 have yq:=n.g.bn
 have zx:=x.size
 have hq:q.D≠h:=λf=>n.nq (by rw[f];exact v.2)
 have kx:ks.D∉S:=λo=>by have:=n.lt _ o;omega
 have ck:∀y∈l,y.2.D<M.size:=λy s=>(n.c y s).bn.2
 have I:∀e∈Ks (l++[(p,ks)])++S,e∈Ks l++S\/e=ks.D:=λe g=>by
  simp only[Ks,ft,cK,fD,List.mem_append,lF]at g⊢;rcases g with(f|f)|f<;>simp[f]
 have g1:Gr (Ks (l++[(p,ks)])++S) b j jz 5 RA q (l.map hd):=n.g.re RA.mono (x.fz []) aL aL λe g=>(I e g).imp id λf=>V
 have Y:Le (bG (ks.D::q.D::(Ks l++S)) j) (bG (q.D::(Ks (l++[(p,ks)])++S)) j):=iR j λe g=>by
  rcases List.mem_cons.1 g with f|f
  .simp[f]
  .rcases I e f with f|f
   .exact ai _ (ai _ f)
   .simp[f]
 refine⟨aJ (U.same h z.lt) i,Gr.kH (g:=[.s .nil,.s .nil,.i 0,.i 0,.s .nil]) (k:=hd (p,ks)) RA.mono bh g1 ((T.trans x).fz []) ⟨t,e,rfl,ha.le Y,g.le Y⟩ bE λr k ab aa B F=>?_⟩
 have K:=z.congr (F h z.lt (kC hq))
 have hr:r.D≠h:=by have:=z.lt;omega
 have A:∀e,e≠h->(ah k h i [.s r])[e]? =k[e]? :=λe g=>bd _ _ _ _ g
 have N:Fz [q.D,h] j (ah k h i [.s r]):=⟨by rw[aw];exact B.1,λe g w=>(A e (by simp at w;omega)).trans (F e g (by simp at w;omega))⟩
 have C:Fz [q.D,h] M (ah k h i [.s r]):=(x.fz _).trans N
 have F0:J b (ah k h i [.s r]):=(aa.ah (Or.inr v.1) _ _).ext
 have ae:=B.1
 have W:∀e∈r.D::(Ks (l++[(p,ks)])++S),(e∈q.D::(Ks l++S)\/e=ks.D)\/j.size<=e:=λe g=>by
  rcases List.mem_cons.1 g with f|f
  .rcases B.2 with u|u
   .exact Or.inl (Or.inl (by simp[f,u]))
   .exact Or.inr V
  .exact Or.inl ((I e f).imp (ai _) id)
 have X:∀e∈r.D::(Ks (l++[(p,ks)])++S),e∈q.D::(Ks l++S)\/M.size<=e:=λe g=>(W e g).elim (λf=>f.imp id λf=>V) λf=>Or.inr V
 have H:∀e∈[q.D,h],e∈q.D::(Ks l++S):=λe g=>by simp at g;rcases g with f|f<;>simp[f,v.2]
 refine⟨λe g=>?_,K.fJ V,λe g=>A e (R e g).2.1,hk r _ ⟨n.d.le (C.bG H X),?_,λy s=>?_,?_,λe g=>?_,λo=>?_,λy s o=>?_⟩ (cE.ah (m:=k) K) F0⟩
 .have D:=R e g
  rw[F e V D.2.2,U.same e V]
 .rw[ft]
  let⟨g0,D,g1,g2⟩:=ab
  exact⟨g0,D,g1.congr (A _ hr),g2.mono λcs y=>RA.mono.le (pA λe g w=>⟨w,A e λf=>w (by rw[f];simp[v.2])⟩)⟩
 .rcases List.mem_append.1 s with f|f
  .exact(n.c y f).re dS.mono C H (by simp;exact⟨n.kq y f,λu=>n.nc y f (u▸v.2)⟩) X
  .simp at f
   subst f
   let⟨ac,D,ad,rr⟩:=Q
   have w:Gr (ks.D::q.D::(Ks l++S)) G j dW 6 dS ks p.dq:=⟨ac,D,ad,rr.mono λcs y=>dS.mono.le (iR j λe g=>by
    rcases List.mem_cons.1 g with f|f
    .simp[f]
    .exact f)⟩
   exact Gr.cx dS.mono (w.re dS.mono N (λe g=>ai _ (H e g)) (by simp;exact⟨V,λu=>kx (u▸v.2)⟩) λe g=>(W e g).imp (λf=>f.elim (ai _) λf=>by simp[f]) id) (λe g=>Or.inl g) (oh T.size)
 .simp only[Ks,ft,cK,fD]
  refine List.nodup_append.2 ⟨n.nd,aL,λe g u o=>?_⟩
  simp at o g
  obtain⟨w,D,s,rfl⟩:=g
  have:=ck _ s
  simp at this;omega
 .have:=n.lt e g
  have:=C.size
  omega
 .rcases B.2 with f|f
  .exact n.nq (f▸o)
  .have:=n.lt _ o;omega
 .rcases List.mem_append.1 s with f|f
  .exact n.nc y f o
  .simp at f
   subst f
   exact kx o
end
end
def wa{h:List Nat}{m:E}(R:∀c∈h,c<m.size){ae ak:O}{H:List bz}{C:List dy}(hd:cw m ae H)(ht:dT H)(hp:iG m ak C)(ai:DJ C):
 aN cg 167 [.agg #[O.v ae,O.v ak]] m λN Y=>∃t q l,N=.agg #[O.v t,O.v q]/\vv h m Y t q H l/\l.map (·.1)=C/\J m Y:=by
 apply Ax
 simp -zeta only[aC,aB]
 intro b a2
 let⟨x2,hl⟩:=dD (a:=b) (c:=a2) rfl rfl
 have s1:b.size=m.size+1:=by simp[b]
 clear_value a2
 have aH:=hp.len;have aG:=ai.oA
 refine(fU (b:=b.size::h) (bO R x2.size (hl _ aL)) (hd.le x2.le) ht).mono λ_ z⟨t,e,av,x3⟩=>?_
 subst e
 refine⟨x3.dv hl,_,rfl,?_⟩
 intro j az ac
 have Z:=x2.trans x3
 let⟨x5,B0,g0,s3,s5⟩:=kW (b:=j.size::b.size::h) RA.mono (d:=z) (a:=j) (c:=az) (h:=ac) rfl rfl rfl
 clear_value ac
 have ah:∀c∈[b.size,m.size],c<z.size:=λc d=>x3.lt (hl c d)
 have i1:=ah b.size aL
 have z2:=Z.size
 have A0:vv (j.size::b.size::h) z ac t (.mk z.size 0 0 0) H []:=⟨av.le (x5.bG λf s=>by
  simp only[Ks,fD,eE,aV]at s;rcases s with e|e|e
  .exact Or.inr (by rw[e];exact ad _)
  .exact Or.inr V
  .exact Or.inl (List.mem_cons.2 e)),g0,aL,aL,λf s=>by
   simp only[aV]at s;rcases s with e|e|e
   .omega
   .omega
   .have:=R f e;omega,λd=>by
   simp only[aV]at d;rcases d with e|e|e
   .simp at e;omega
   .simp at e;omega
   .have:=R _ e;simp at this;omega,aL⟩
 refine dU (n:=C.length) V (λX g=>J z g/\∃k l,vv (j.size::b.size::h) z g t k H l/\cE g j.size vk [.s t,.s k]/\l.map (·.1)=C.take X) ⟨x5,_,[],A0,B0,rfl⟩ ?_
 rintro X g aE μ hk ⟨xM,o,l,A,B,T⟩ aD
 have zM:=xM.size
 refine dit (λx=>?_) λx=>?_
 .let⟨q,hq⟩:=cG C X
  have W:=ai.dz q (aq hq)
  have q3:=W.params;have q4:=W.cR;have qf:=W.oA
  have v6:=Z.trans xM
  let⟨aF,f,c,c1,c2,c3,e0,e1,e2,e3,e4⟩:=hp.aF hq
  have G:∀{N:Value}{f y:Nat},af m f y=some N->af g f y=some N:=λx=>v6.af x
  refine⟨V,V,_,G e0,_,G e1,_,G e2,_,G e3,_,G e4,?_⟩
  intro m7 k
  obtain⟨Q,-,s8⟩:=kE (M:=g) (d:=m7) (c:=k) rfl rfl rfl
  clear_value k
  have U:∀c∈[g.size,b.size,m.size],c<k.size:=λc d=>by
   rcases List.mem_cons.1 d with e|e
   .omega
   .have:=ah c e;omega
  have w8:=v6.trans Q
  have hT:∀{w:E},g.size<=w.size->∀c∈o.D::(Ks l++(j.size::b.size::h)),c<w.size:=λx c d=>by
   rcases List.mem_cons.1 d with e|e
   .have:=A.g.bn;omega
   .rcases List.mem_append.1 e with e|e
    .obtain⟨u,r,rfl⟩:=List.mem_map.1 e;have:=(A.c u r).bn;omega
    .have:=A.lt c e;omega
  intro m9
  have x9:J k m9:=J.push _ _
  have ar:Gr (o.D::(Ks l++(j.size::b.size::h))) k m9 dW 6 dS (.mk k.size 0 0 0) []:=Gr.new _ (ad _) _ _ _
  clear_value m9
  have au:=c3.len
  refine ez (n:=q.dq.length) (au▸c3.gS) (λab ks u=>J k u/\Gr (o.D::(Ks l++(j.size::b.size::h))) k u dW 6 dS ks (q.dq.take ab)) ⟨x9,ar⟩ ?_
  rintro ab ks u I2 μ2 hj ⟨r,I⟩ aA
  have X2:=w8.trans r
  have z2:=r.size
  have ay:∀c∈[g.size,b.size,m.size],c<u.size:=λc d=>r.lt (U c d)
  refine dit (λh2=>?_) λh2=>?_
  .let⟨K,D⟩:=cG q.dq ab
   let⟨pa,pj,ha,ax,P,ag,aj,am,an,ao⟩:=(fe.ext X2 c3).aF D
   have yk:=I.bn
   refine⟨V,V,_,P,_,ag,_,aj,_,am,_,an,_,ao,?_⟩
   refine(we (S:=ks.D::o.D::(Ks l++(j.size::b.size::h))) (λc d=>?_) ha ax (W.je K (aq D))).mono λN aI⟨a',j',e,aa,aw,v⟩=>⟨λc d=>v.same c (ay c d),_,_,_,_,_,_,e,?_⟩
   .rcases List.mem_cons.1 d with e|e
    .omega
    .exact hT V c e
   intro aK
   refine Gr.kH (g:=[.i 0,.i 0,.i 0,.i 0,.s .nil,.s .nil]) (k:=K) dS.mono bh (I.ext dS.mono v) ((r.trans v).fz []) ⟨a',j',rfl,aa,aw⟩ bE λal M3 g3 F z3 aM=>⟨J.oE ((r.trans v).aK _) F.ext U,aA V _ _ ⟨F.ext,?_⟩⟩
   rw[aU D];exact g3
  .rw[bX V]at I
   have v:∀{M1 u:E},J k M1->J M1 u->∀f,f<k.size->∀y,af u f y=af M1 f y:=λx h' f s y=>aJ (h'.same f (x.lt s)) y
   have K:g.size<k.size:=V
   have i2:j.size<k.size:=aO B.lt Q.size
   refine⟨o,(B.ext (Q.trans r)).bZ 1,?_⟩
   refine(bN [] (c1.ext X2) V).aH r U λa' _ ao ga e F D=>⟨_,rfl,v r F _ K _,v r F _ K _,v r F _ K _,v r F _ i2 _,?_⟩
   subst e
   refine(bN [] (c2.ext (w8.trans D)) V).aH D U λb' _ aj gb e P am=>⟨_,rfl,v D P _ K _,v D P _ K _,v D P _ i2 _,?_⟩
   subst e
   intro aw
   have ax:=D.size
   have aI:=am.size
   have yk:=I.bn
   have ag:∀{w:E},u.size<=w.size->∀c∈ks.D::o.D::(Ks l++(j.size::b.size::h)),c<w.size:=λx c d=>by
    rcases List.mem_cons.1 d with e|e
    .omega
    .exact hT V c e
   have aa:ap (bG (ks.D::o.D::(Ks l++(j.size::b.size::h))) aj) a' q.params:=(GI.done (GI.any ga) (ag (ad _)) V).le (P.df _)
   have an:ap (bG (ks.D::o.D::(Ks l++(j.size::b.size::h))) aj) b' q.cR:=GI.done (GI.any gb) (ag F.size) V
   have ll:l.length=X:=by have:=pV List.length T;simp at this;omega
   have yq:=A.g.bn
   exact A.yD (i:=1) (bc:=[.s t,.s o]) (tb:=vk) (p:=⟨q.params,q.cR,q.aS,q.ak,q.dq⟩) (L:=[g.size,b.size,m.size]) (Q.trans am) (I.ext dS.mono (F.trans P)) V aa an B aL bh ⟨V,aL⟩ (λc d=>by
    have hn:=A.nq;simp only[aV,vt]at d hn;have:=Q.size;have:=B.lt;rcases d with e|e|e|e
    .omega
    .omega
    .omega
    .simp at e) V xM λal Y A' B' x'=>aD V Y ⟨x',al,_,A',B',by rw[aU hq,ft,T];rfl⟩
 .refine⟨t,B.bZ 0,o,B.bZ 1,?_⟩
  intro w
  rw[bX V]at T
  have k:Fz [b.size] g w:=(Fz.az _ g).ah (Or.inl aL) _ _
  exact⟨t,o,l,rfl,A.re k aL (λf s=>⟨Or.inl (by simp[s]),O6 (R f s) k.size⟩) Z.size,T,(Z.trans xM).ah V _ _⟩
section
variable{cs:List Ce}{p:dy}{y:Instr}
def PW{α:Type}{l:List α}{f:Nat}{x:α}(h:l[f]? =some x):l.set f x=l:=by
 apply gU;intro i;rw[jD];split
 .next e=>
  subst e;rw[h];split
  .rfl
  .next hi=>exact absurd (av h) hi
 .rfl
section
variable{S L B X:List Nat}{c m M:E}{a q d:O}{b:List bz}{l:List (dy×O)}{e Q f k:Nat}{x:dy×O}
def BS.psh(h:BS B e d m Q M)(o:Obj):BS (M.size::B) e d m Q (M.push o):=⟨h.s.ext (J.push M o),λc b=>by
 have z:=h.s.f.size;rw[Array.size_push];rcases List.mem_cons.1 b with a|a
 .omega
 .have:=h.gF c a;omega⟩
def vv.oA(h:DJ (l.map (·.1)))(a:x∈l):SW x.1:=h.dz x.1 (List.mem_map.2 ⟨x,a,rfl⟩)
def vv.len(h:vv S c M a q b l):q.len=l.length:=by have:=h.g.len bh;simpa using this
def vv.iA(n:vv S c M a q b l)(z:l.length<=1000)(k:l[f]? =some x):∃e d:O,af M q.D (q.off+f*5)=some (O.v e)/\af M q.D (q.off+f*5+1)=some (O.v d)/\af M q.D (q.off+f*5+2)=some (vi x.1.aS)/\af M q.D (q.off+f*5+3)=some (vi x.1.ak)/\af M q.D (q.off+f*5+4)=some (O.v x.2)/\ap (bG (q.D::S) M) e x.1.params/\ap (bG (q.D::S) M) d x.1.cR:=by
 let⟨A,m,v,r⟩:=n.g;have y:=av k;have t:f<m.length:=by have:=r.len;simp at this;omega
 let⟨cs,j⟩:=dB t;let⟨e,d,h,o,p⟩:=r.dz f cs (hd x) j (by simp[k]);have iA:=v.iA;have w:Le (bG (q.D::(Ks l++S)) M) (bG (q.D::S) M):=iR M λd s=>by rcases List.mem_cons.1 s with h|h<;>simp[h]
 have aF:∀i g,cs[i]? =some g->af M q.D (q.off+f*5+i)=some g.v:=λi g u=>by
  have:=iA (f*5+i) g (fV r.size j u);rwa[<-dj]at this
 subst h;exact⟨e,d,aF 0 _ rfl,aF 1 _ rfl,aF 2 _ rfl,aF 3 _ rfl,aF 4 _ rfl,o.le w,p.le w⟩
def vv.it(h:vv S c M a q b l)(g:l.length<=1000)(e:∀x∈l,x.1.dq.length<=10^12):IT (bG S M) a q (b,l.map (·.1)):=
 ⟨h.d.le (iR M λf d=>by simp[d]),(h.gr e).nF lj.mono h.nq bh (by simp only[dY];omega)⟩
def vv.aad(h:vv S c M a q b l)(i:Fz X c M)(o:l.length<=1000)(f:∀x∈l,x.1.dq.length<=10^12)(j:k<l.length)(m:lj (bG (q.D::S) M) cs p):
 fJ M q.D (q.off+k*5) 5/\∃n,IT (bG S (ah M q.D (q.off+k*5) cs)) a q (b,n):=by
 obtain⟨w,g,-,-⟩:=(h.gr f).set lj.mono i (k:=k) (by simpa using j) m
 have F:Fz [q.D] M (ah M q.D (q.off+k*5) cs):=(Fz.az _ M).ah (Or.inl aL) _ _
 exact⟨w,_,h.d.le (F.bG (λe d=>by simp at d;simp[d]) λe d=>Or.inl (by simp[d])),g.nF lj.mono h.nq bh bE⟩
def vv.wr(h:vv S c M a q b l)(v:Fz X c M)(j:l[f]? =some x)(A:k<x.1.dq.length)(B:dS (bG (q.D::(Ks l++S)) M) cs y):
 fJ M x.2.D (x.2.off+k*6) 6/\vv S c (ah M x.2.D (x.2.off+k*6) cs) a q b (l.set f ({x.1 with dq:=x.1.dq.set k y},x.2)):=by
 have n:=aq j
 have t:x.2.D∈Ks l:=List.mem_map.2 ⟨x,n,rfl⟩
 have C:∀d∈x.2.D::q.D::(Ks l++S),d∈q.D::(Ks l++S):=λd g=>by
  rcases List.mem_cons.1 g with e|e
  .rw[e];exact ai _ (bI _ t)
  .exact e
 obtain⟨D,u,-,E⟩:=(h.c x n).set dS.mono v A (dS.le (iR M C) B)
 have F:Fz [x.2.D] M (ah M x.2.D (x.2.off+k*6) cs):=(Fz.az _ M).ah (Or.inl aL) _ _
 have p:∀d∈[x.2.D],d∈Ks l++S:=λd g=>by simp at g;rw[g];exact bI _ t
 have o:Ks (l.set f ({x.1 with dq:=x.1.dq.set k y},x.2))=Ks l:=by
  simp only[Ks,tT];exact PW (by simp[j])
 have w:(l.set f ({x.1 with dq:=x.1.dq.set k y},x.2)).map hd=l.map hd:=by
  rw[tT];exact PW (by simp[j,hd])
 have r:∀z∈l.set f ({x.1 with dq:=x.1.dq.set k y},x.2),z=({x.1 with dq:=x.1.dq.set k y},x.2)\/z∈l/\z.2.D≠x.2.D:=λz m=>by
  let⟨G,i⟩:=List.mem_iff_getElem?.1 m;rw[jD]at i;split at i
  .split at i
   .exact Or.inl (by simpa using i.symm)
   .simp at i
  .next hne=>
   refine Or.inr ⟨aq i,λe=>hne ?_⟩;have s:f<(Ks l).length:=by simpa[Ks]using av j
   exact(List.getElem?_inj s h.nd).1 (by simp[Ks,j,i,e])
 refine⟨D,?_,?_,λz m=>?_,by rw[o];exact h.nd,λd g=>by rw[aw];exact h.lt d g,h.nq,λz m=>?_⟩
 .rw[o];exact h.d.le (F.df λd g=>ai _ (p d g))
 .rw[o,w];exact h.g.Nu RA.mono F p (by simp;exactλe=>h.kq x n e.symm)
 .rw[o]
  rcases r z m with e|⟨e,s⟩
  .rw[e];exact u
  .exact(h.c z e).Nu dS.mono F (λd g=>ai _ (p d g)) (by simpa using s)
 .rcases r z m with e|⟨e,s⟩
  .rw[e];exact h.nc x n
  .exact h.nc z e
end
def UB{c:List dy}(h:DJ c){f k:Nat}{x:Instr}(g:c[f]? =some p)(i:p.dq[k]? =some x)(d:SH x y):DJ (c.set f {p with dq:=p.dq.set k y}):=by
 have b:=h.dz p (aq g);refine⟨by simpa using h.iV,by simpa using h.oA,λq j=>?_⟩;rcases cB j with e|e
 .exact h.dz q e
 .subst e;refine⟨b.params,b.cR,by simpa using b.iV,by simpa using b.oA,λl z a=>?_,λz a=>?_⟩
  .simp only[jD]at a;split at a
   .next e=>
    subst e;split at a
    .simp at a;subst a;exact d.1 _ (b.dq _ _ i)
    .simp at a
   .exact b.dq _ _ a
  .rcases cB a with e|e
   .exact b.je z e
   .rw[e];exact d.2
section
variable{a:List Nat}{m:E}{b P:Nat}{c:O}
def Ic(hS:∀k∈a,k<m.size)(ac:b∈a)(I:Rd b c P m)(hP:P+100<=10^16){ab p:O}{s:List bz×List dy}(ag:IT (bG a m) ab p s)(R:UI s):aN cg 93 [vp b 0,.agg #[O.v ab,O.v p]] m (PP IT UI a b c m (P+11)):=by
 apply Ap (b,0);simp -zeta only[aC,aB];have z:=I.lt;intro i Z;have b2:BS [i.size,m.size] b c m P Z:=BS.psh (BS.lJ (S:=a) I _).1 _;have T:J m Z:=(J.push m _).trans (J.push i _);clear_value Z;refine(wa (b2.hS hS) ((ag.1.le (bA _ _)).ext T) (sV R.2) (eS.mono (iG.le (bA _ _) ag.2) T λ_ _=>lj.le T.le) R.1).mono λ_ j⟨w,q,l,e,A,hl,x3⟩=>⟨(b2.lw z λ_ h=>h).dv (x3.fz _),w,q,e,?_⟩;have b3:=b2.to (x3.fz _) (b2.s.r.ext x3);intro m4 K;obtain⟨b5,-,-⟩:=b3.box (S:=a) (m1:=m4) (m2:=K) rfl rfl rfl;obtain⟨x5,-,-⟩:=kE (M:=j) (d:=m4) (c:=K) rfl rfl rfl;clear_value K;have A5:vv ([j.size,i.size,m.size]++a) m K w q s.1 l:=A.re (x5.fz []) aL (λd f=>⟨by
  rcases List.mem_cons.1 f with e|e
  .exact Or.inr V
  .exact Or.inl e,b5.hS hS d f⟩) T.size
 refine b5.pick z V (λ_ h=>h) 2 λam m6 i0 i1 b6 f6=>?_;have hB:∀d∈[b],d∈[j.size,i.size,m.size]++a:=by simp[ac]
 have Q:∀{u M':E}{l:List (dy×O)},vv ([j.size,i.size,m.size]++a) m u w q s.1 l->Fz [b] u M'->vv ([j.size,i.size,m.size]++a) m M' w q s.1 l:=λh G=>h.re G hB (λd f=>⟨Or.inl f,aO (h.lt d f) G.size⟩) (ad _);refine⟨λN u=>∃n:Nat,N=n/\n<=2/\BS [j.size,i.size,m.size] b c m (P+11 -5*n) u/\∃l,vv ([j.size,i.size,m.size]++a) m u w q s.1 l/\DJ (l.map (·.1)),λN _=>N.toNat,⟨(am+1).toNat,by rw[aQ V V];omega,V,⟨⟨b6.s.f,b6.s.r.mono V⟩,b6.gF⟩,l,Q A5 f6,hl▸R.1⟩,?_⟩;rintro N u ⟨n,rfl,hk,d,l,A,r⟩;refine⟨λh=>?_,λ_=>d.iH IT.mn I aL (x:=(s.1,l.map (·.1))) (A.it (by have:=r.oA;simp at this;omega) λy g=>(vv.oA r g).oA) ⟨r,R.2⟩ V _⟩;simp only[kD,ar]at h;have az:=A.len;have l4:l.length<=4:=by simpa using r.oA
 have l0:0<l.length:=by simpa using r.iV
 refine d.pick z V (λ_ h=>h) (q.len:Int) λG m7 X f1 b7 f7=>?_;have U:=Q A f7;let⟨y,g⟩:=cG l G.toNat;obtain⟨-,-,-,-,-,-,g7,-,-⟩:=U.iA V g;have C:=vv.oA r (aq g);have ax:=(U.dq (aq g) C.oA).len;have au:=C.iV;refine⟨X,V,y.2,g7,b7.pick z V (λ_ h=>h) (y.2.len:Int) λan L j0 j1 W f8=>?_⟩;have t:=Q U f8;obtain⟨-,-,-,-,-,-,g8,-,-⟩:=t.iA V g;let⟨ao,B⟩:=cG y.1.dq an.toNat;let⟨ap,jj,ha,hj,e0,e1,e2,e3,e4,e5⟩:=(t.dq (aq g) C.oA).aF B;have gF:∀{d o:Nat}{ah:Value},af (bG (q.D::([j.size,i.size,m.size]++a)) L) d o=some ah->af L d o=some ah:=λh=>(eP.1 h).2;refine⟨X,V,y.2,g8,X,V,y.2,g8,j0,V,_,gF e0,_,gF e1,_,gF e2,_,gF e3,_,gF e4,_,gF e5,?_⟩;have hZ:∀k∈q.D::(Ks l++([j.size,i.size,m.size]++a)),k<L.size:=λk Y=>by
  rcases List.mem_cons.1 Y with e|e
  .rw[e];exact t.g.bn.2
  .rcases List.mem_append.1 e with e|e
   .obtain⟨aa,v,rfl⟩:=List.mem_map.1 e;exact(t.c aa v).bn.2
   .exact t.lt k e
 refine(Ib hZ W.s.r V (ha.le (iR _ (by simp[ac]))) (hj.le (bA _ _)) (C.je ao (aq B)) ⟨_,C.dq _ _ B⟩).mono λ_ m9⟨D,a',j',e,ak,al,f,r9,H⟩=>⟨(W.lw z λ_ h=>h).dv H,_,_,_,_,_,_,e,?_⟩;have F:=Q t H;have v:=W.to H r9;let⟨aa,aj⟩:=F.wr v.s.f g (av B) (cs:=[.i D.op,.i D.dst,.i D.bP,.i D.bY,.s a',.s j']) (y:=D) ⟨a',j',rfl,ak,al⟩;have yc:=(F.c y (aq g)).bn;have ae:∀o d,d∈q.D::([j.size,i.size,m.size]++a)->d≠b->af m9 d o=af L d o:=λo d f hn=>aJ (H.same d (hZ d ((List.mem_cons.1 f).elim (λe=>by simp[e]) λe=>ai _ (eD _ e))) (by simpa using hn)) o;have yq:=F.g.bn;have ay:=v.gF j.size aL;refine⟨ae _ _ aL V,ae _ _ aL V,j0,V,aa,λd f=>bd _ _ _ _ λe=>(F.nc y (aq g)) (by rw[<-e];exact bI _ f),⟨n -1,?_,V,⟨⟨v.s.f.ah (Or.inr V) _ _,(I.ah v.s.r v.s.f V _ _).mono V⟩,λk Y=>by rw[aw];exact v.gF k Y⟩,_,aj,?_⟩,?_⟩
 .rw[aQ V V];omega
 .rw[tT];exact UB r (by simp[g]) B f
 .rw[aQ V V];show((n:Int) -1).toNat<(n:Int).toNat;omega
end
end
section
variable{m:E}{b:Nat}{a j:O}
def BI.lJ{L:List Nat}{g M:E}{k Q:Nat}{i:O}{p q:List Int}(h:BI g k b i m Q M a j p q)(o:b<m.size)(u:Q<=10^16)(s:∀e∈L,m.size<=e/\e<=k)(d:List Int){f:List Ce}{n:Nat}(w:f=d.map Ce.i)(A:n=d.length)(z:0<d.length/\d.length<=100){K:Int->E->Prop}
 (y:∀t c,BI g k b i m (Q+1) c a j p q->K t c):aN cg 43 [vp b 0,O.v (.mk M.size 0 n n)] (M.push (.cells (bt f) aA)) λC c=>eF L (M.push (.cells (bt f) aA)) c/\∃t:Int,C=vi t/\K t c:=
 have:=h.hi
 have x:=J.push M (.cells (bt f) aA)
 have D:=x.size
 (zY h.s u d w A z).mono λ_ c⟨t,r,_,B,l⟩=>⟨l.dv λe v=>by have:=s e v;simp only[lF];omega,t,r,y t c ((h.to o (x.fz _) (h.s.r.ext x)).to o l B.r)⟩
def GN{Z:List Nat}{P:Nat}{s:O}{x:Instr}(o:∀c∈Z,c<m.size)(c:Rd b s P m)(hP:P+20<=10^16)(U:ap m a x.args)(W:ap m j x.eL)(p:x.args.length<=10^12/\x.eL.length<=10^12):
 aN cg 170 [vp b 0,VL x a j] m (IX Z b s m (P+4) λ_=>True):=by
 apply yV (b,0)
 simp(config:={maxSteps:=1000000}) -zeta only[aC,aB]
 have q:=c.lt
 intro v h
 let⟨H,C⟩:=dD (a:=v) (c:=h) rfl rfl
 have i:v.size=m.size+1:=by simp[v]
 have s2:h.size=m.size+2:=by simp[h,i]
 clear_value h
 clear_value v
 refine(wc [] (U.ext H) (W.ext H) p).mono λ_ r⟨K,N,l,L,E,X,S⟩=>⟨S.dv C,_,_,_,_,_,_,l,?_⟩
 intro Y F
 obtain⟨I,-,z5⟩:=kE (M:=r) (d:=Y) (c:=F) rfl rfl rfl
 clear_value F
 have ya:=L.bn;have yj:=E.bn
 have J:=(H.trans S).trans I
 have b5:BI h r.size b s m P F K N x.args x.eL:=⟨L.ext I,E.ext I,X,⟨J.fz _,c.ext J⟩,⟨V,oU p.1,oU p.2⟩,V,V,V,V⟩
 have u:∀B∈[r.size,v.size,m.size],m.size<=B/\B<=r.size:=bE
 refine b5.pick q V u 6 λac y _ _ b6 _ f6=>?_
 have y6:=b6.hi
 have R:∀{w:O}{Q:List Int},GI [] h y w Q->Q.length<=10^12->aN cg 95 [vp b 0,O.v w] y λA f=>eF [r.size,v.size,m.size] y f/\∃e,A=O.v e/\∃g,GI [] y f e g/\g.length<=1000000000001/\Rd b s (P+4) f/\Fz [b] y f:=λn C=>
  (qF b6.s.r V (ap.le (bA _ _) (n.done aL C)) C).mono λ_ f⟨e,g,l,T,D,_,z,t⟩=>⟨t.dv λB p=>by have:=u B p;simp only[lF];omega,e,l,g,T,V,z,t⟩
 refine⟨λ_=>b6.pick q V u 26 λA G _ _ d _ _=>(d.put c _ _).iH c o i V trivial _,λ_=>⟨λ_=>b6.lJ q V u [0,1,-1,99] rfl rfl aL λA G d=>(d.put c _ _).iH c o i V trivial _,λ_=>⟨λ_=>b6.lJ q V u [0,1,5,-1,1000,2000] rfl rfl aL λA G d=>(d.put c _ _).iH c o i V trivial _,λ_=>⟨λ_=>b6.lJ q V u [0,1,-1,99] rfl rfl aL λA G d=>(d.put c _ _).iH c o i V trivial _,λ_=>⟨λ_=>?_,λ_=>⟨λ_=>?_,λ_=>b6.iH c o i V trivial _⟩⟩⟩⟩⟩⟩
 .refine(R b6.ga p.1).mono λ_ f⟨w,e,l,g,n,D,z,t⟩=>⟨w,e,l,?_⟩
  have aa:=n.bn
  have ab:=b6.s.f.size
  have k:=b6.to q t z
  have d:BI h r.size b s m (P+4) f e N g x.eL:=⟨n.cx aL V,k.gj,oh E.bn,k.s,⟨V,D,b6.lo.2.2⟩,V,V,k.hi.2.2⟩
  exact(d.put c _ _).iH c o i V trivial _
 .refine(R b6.gj p.2).mono λ_ f⟨w,e,l,g,n,D,z,t⟩=>⟨w,e,l,?_⟩
  have aa:=n.bn
  have ab:=b6.s.f.size
  have k:=b6.to q t z
  have d:BI h r.size b s m (P+4) f K e x.args g:=⟨k.ga,n.cx aL V,V,k.s,⟨V,b6.lo.2.1,D⟩,V,V,k.hi.2.2⟩
  exact(d.put c _ _).iH c o i V trivial _
end
section
def AD(S:List Nat)(b:Nat)(c:O)(m:E)(P:Nat)(v:Value)(a:E):Prop:=∃s d,v=O.v s/\cw (bG S a) s d/\Rd b c P a/\Fz [b] m a
structure DD(S:List Nat)(rb:Nat)(bs:O)(m:E)(Q:Nat)(M:E)(s:O)(ds:List bz):Prop where
 g:Zf S m M s ds
 r:Rs rb bs m Q M
 l:0<ds.length/\ds.length<=100
section
variable{a:List Nat}{b P Q h g:Nat}{c s:O}{m M f:E}{e:List bz}
def DD.to(d:DD a b c m Q M s e)(i:b∈a/\b<m.size)(g:Fz [b] M f)(r:Rs b c m h f):DD a b c m h f s e:=⟨d.g.eA iK.mono g (by simp;exact i),r,d.l⟩
def DD.ext(h:DD a b c m Q M s e)(x:J M f):DD a b c m Q f s e:=⟨h.g.ext iK.mono x,h.r.ext x,h.l⟩
def DD.gF(h:DD a b c m Q M s e)(g:∀d∈a,d<m.size):∀d∈s.D::a,d<M.size:=λd i=>(List.mem_cons.1 i).elim (λf=>f▸h.g.bn.2) λf=>aO (g d f) h.r.f.size
def DD.lit(h:DD a b c m Q M s e)(f:∀d∈a,d<m.size)(l:List Int){cs:List Ce}{n:Nat}(d:cs=l.map Ce.i)(g:n=l.length)(i:l.length<=100):ap (bG (s.D::a) (M.push (.cells (bt cs) aA))) (.mk M.size 0 n n) l:=ap.lit aA l (h.gF f) d g V
def DD.iH(h:DD a b c m Q M s e)(f:∀d∈a,d<m.size)(d:Q<=g):AD a b c m g (O.v s) M:=⟨s,e,rfl,h.g.done iK.mono f bh (oh h.l),h.r.r.mono d,h.r.f⟩
def DD.set(h:DD a b c m Q M s e)(o:∀f∈a,f<m.size)(i:Rd b c P m)(n:Q<=g){k:Int}(p:0<=k/\k<(e.length:Int)){cs:List Ce}{d:bz}(hd:iK (bG (s.D::a) M) cs d):
 0<=k/\k<(s.len:Int)/\fJ M s.D (s.off+k.toNat*3) 3/\AD a b c m g (O.v s) (ah M s.D (s.off+k.toNat*3) cs):=by
 have q:=h.g.len bh
 have y:=h.g.bn
 let⟨w,l,f,j⟩:=h.g.set iK.mono h.r.f (k:=k.toNat) V hd
 exact⟨p.1,V,w,s,_,rfl,l.done iK.mono o bh (by have:=h.l;simp;omega),(i.MD h.r.r f (j b (oh i.lt))).mono n,f⟩
def DD.gX(h:DD a b c m Q M s e)(i:∀d∈a,d<m.size)(k:Rd b c P m)(q:Q<=g){d:List Ce}{n:Nat}(l:List (bz×List Ce))(hd:∀x∈l,iK (bG (s.D::a) M) x.2 x.1)(t:d=l.flatMap (·.2))(u:n=l.length)(v:l.length<=100):
 jK (M.push (.cells (bt d) jV)) jV [.i 0,.i 0,.s .nil] 40 s (.mk M.size 0 n n) λr f=>AD a b c m g (O.v r) f:=by
 have x:=J.push M (.cells (bt d) jV)
 have z:=h.g.bn
 have H:=(BP iK.mono (h.gF i) jV l hd t u).done iK.mono (h.gF i) bh bE
 have w:=h.l
 refine Gr.all (g:=[.i 0,.i 0,.s .nil]) iK.mono bh (h.ext x).g (h.ext x).r.f H bE λr y p j A o=>⟨r,_,rfl,p.done iK.mono i bh bE,(k.MD (h.ext x).r.r j (o b (h.ext x).r.r.lt (oh k.lt))).mono q,j⟩
def JE(g:∀z∈a,z<m.size)(O:b∈a)(v:Rd b c P m)(hP:P+100<=10^16):aN cg 169 [vp b 0] m (AD a b c m (P+6)):=by
 apply Cn (b,0);have hr:=v.lt;have w:b∈a/\b<m.size:=⟨O,hr⟩;refine(wh g O v V).mono λ_ m1⟨s,e,h,g1,ad,d1,f1⟩=>⟨s,h,?_⟩;have R:DD a b c m (P+1) m1 s e:=⟨g1,⟨f1,d1⟩,oh (pu e ad)⟩;have sl:s.len=e.length:=g1.len bh;have dl:=R.l;refine(cp d1 V (s.len:Int)).mono λ_ m2⟨D,h,k0,k1,d2,f2⟩=>⟨D,h,?_⟩;have Z:=R.to w f2 (R.r.to f2 d2);have N:0<=D/\D<(e.length:Int):=V;refine(cp d2 V 14).mono λ_ F⟨ae,h,_,_,d3,f3⟩=>⟨ae,h,?_⟩;have k:=Z.to w f3 (Z.r.to f3 d3);have Q:∀{M:E},Uu M .nil []:=⟨rfl,dL _,aL,aL⟩;have x:∀{M f:E},J M f->Le (bG (s.D::a) M) (bG (s.D::a) f):=λX=>X.df _;refine⟨λ_=>?_,λ_=>⟨λ_=>?_,λ_=>⟨λ_=>?_,λ_=>⟨λ_=>?_,λ_=>⟨λ_=>?_,λ_=>⟨λ_=>k.gX g v V [(⟨0,0,[]⟩,[.i 0,.i 0,.s .nil]),(⟨3,0,[]⟩,[.i 3,.i 0,.s .nil])] (by simp;exact⟨⟨.nil,rfl,Q⟩,⟨.nil,rfl,Q⟩⟩) rfl rfl aL,λ_=>k.iH g V⟩⟩⟩⟩⟩⟩
 .refine(zY k.r V [-1,5,0,2] rfl rfl aL).mono λ_ o⟨t,h,_,G,u⟩=>⟨t,h,?_⟩;have r:=(k.ext (J.push F _)).to w u G;refine(zY G V [0,1,5] rfl rfl aL).mono λ_ l⟨q,h,_,A,y⟩=>⟨q,h,?_⟩;have p:=(r.ext (J.push o _)).to w y A;exact p.set g v V N (d:=⟨t,q,[]⟩) ⟨.nil,rfl,Q⟩
 .refine(zY k.r V [-1,0,4,5] rfl rfl aL).mono λ_ o⟨t,h,_,G,u⟩=>⟨t,h,?_⟩;have r:=(k.ext (J.push F _)).to w u G;have L:=r.lit g [t] (cs:=[.i t]) (n:=1) rfl rfl aL;refine Di _ λl y=>?_;have p:=(r.ext (J.push o _)).ext y;have a2:=p.lit g [0,0,0,0] (cs:=[.i 0,.i 0,.i 0,.i 0]) (n:=4) rfl rfl aL;refine Di _ λq B=>?_;have H:=(p.ext (J.push l _)).ext B;have a3:=H.lit g [] (cs:=[]) (n:=0) rfl rfl aL;refine Di _ λA C=>?_;have I:=(H.ext (J.push q _)).ext C;have K:=(J.push q (.cells (bt []) aA)).trans C;have U:=((J.push l (.cells (bt [.i 0,.i 0,.i 0,.i 0]) aA)).trans B);have z:=wK (I.gF g) oT [([t],.mk o.size 0 1 1),([0,0,0,0],.mk l.size 0 4 4),([],.mk q.size 0 0 0)] aL (by
   simp only[aV,jW,BD,forall_eq_or_imp,forall_eq];exact⟨L.le (x ((y.trans U).trans K)),a2.le (x (B.trans K)),a3.le (x C)⟩) (c:=[.s (.mk o.size 0 1 1),.s (.mk l.size 0 4 4),.s (.mk q.size 0 0 0)]) (b:=3) rfl rfl
  exact(I.ext (J.push A _)).set g v V N (d:=⟨0,0,_⟩) ⟨_,rfl,z⟩
 .have L:=k.lit g [cT (D+1)] (cs:=[.i (cT (D+1))]) (n:=1) rfl rfl aL;refine Di _ λl y=>?_;have p:=(k.ext (J.push F _)).ext y;have z:=wK (p.gF g) oT [([cT (D+1)],.mk F.size 0 1 1)] aL (by
   simp only[aV,jW,BD,forall_eq];exact L.le (x y)) (c:=[.s (.mk F.size 0 1 1)]) (b:=1) rfl rfl
  exact(p.ext (J.push l _)).set g v V N (d:=⟨0,0,_⟩) ⟨_,rfl,z⟩
 .refine(zY k.r V [0,2,1] rfl rfl aL).mono λ_ o⟨t,h,_,G,u⟩=>⟨t,h,?_⟩;have r:=(k.ext (J.push F _)).to w u G;exact r.gX g v V [(⟨2,t,[]⟩,[.i 2,.i t,.s .nil])] (by simp;exact⟨.nil,rfl,Q⟩) rfl rfl aL
 .refine(cp k.r.r V 2).mono λ_ o⟨t,h,_,_,d4,u⟩=>⟨t,h,?_⟩;have r:=k.to w u (k.r.to u d4);have L:=r.lit g [] (cs:=[]) (n:=0) rfl rfl aL;refine Di _ λl y=>?_;have p:=(r.ext (J.push o _)).ext y;have a2:=p.lit g [2] (cs:=[.i 2]) (n:=1) rfl rfl aL;refine Di _ λq B=>?_;have H:=(p.ext (J.push l _)).ext B;have a3:=H.lit g [] (cs:=[]) (n:=0) rfl rfl aL;refine Di _ λA C=>?_;have I:=(H.ext (J.push q _)).ext C;have a4:=I.lit g [] (cs:=[]) (n:=0) rfl rfl aL;refine Di _ λm8 Y=>?_;have D8:=(I.ext (J.push A _)).ext Y;have W:=(J.push A (.cells (bt []) aA)).trans Y;have K:=(J.push q (.cells (bt []) aA)).trans C;have U:=((J.push l (.cells (bt [.i 2]) aA)).trans B);have z:=wK (D8.gF g) oT [([],.mk o.size 0 0 0),([2],.mk l.size 0 1 1),([],.mk q.size 0 0 0),([],.mk A.size 0 0 0)] aL (by
   simp only[aV,jW,BD,forall_eq_or_imp,forall_eq];exact⟨L.le (x (((y.trans U).trans K).trans W)),a2.le (x ((B.trans K).trans W)),a3.le (x (C.trans W)),a4.le (x Y)⟩) (c:=[.s (.mk o.size 0 0 0),.s (.mk l.size 0 1 1),.s (.mk q.size 0 0 0),.s (.mk A.size 0 0 0)]) (b:=4) rfl rfl
  have T:=D8.ext (J.push m8 (.cells (bt [.s (.mk o.size 0 0 0),.s (.mk l.size 0 1 1),.s (.mk q.size 0 0 0),.s (.mk A.size 0 0 0)]) oT));refine(cp T.r.r V 3).mono λ_ af⟨aa,h,j0,j1,ac,G⟩=>⟨aa,h,j0,bE,aL,?_⟩;have c':=(eS.le z (G.df (S:=s.D::a) (by simp[O])) λab X=>mM.le (G.df (by simp[O])) ab X).KD (i:=aa.toNat) (j:=4) V aL;exact(T.to w G (T.r.to G ac)).set g v V N (d:=⟨t,0,_⟩) ⟨_,rfl,c'⟩
end
end
section
def Tr{α:Type}(_:α):Prop:=True
section
variable{a:List Nat}{m:E}{b P:Nat}{c:O}
def uF(hS:∀w∈a,w<m.size)(aa:b∈a)(Z:Rd b c P m)(hP:P+200<=10^16){an ao:O}{x:List bz×List dy}(u:IT (bG a m) an ao x)(ap:UI x)(aD:Int):aN cg 94 [vp b 0,.agg #[O.v an,O.v ao],vi aD] m (PP IT Tr a b c m (P+10)):=by
 apply yU (b,0);simp(config:={maxSteps:=1000000}) -zeta only[aC,aB];have F:=Z.lt;intro d ae;have b2:BS [d.size,m.size] b c m P ae:=BS.psh (BS.lJ (S:=a) Z _).1 _;have x2:J m ae:=(J.push m _).trans (J.push d _);have s1:d.size=m.size+1:=by simp[d]
 have t2:IT (bG ([d.size,m.size]++a) ae) an ao x:=IT.mn _ _ _ _ _ (x2.bG λh r=>by
  simp at r;rcases r with e|e|e
  .exact Or.inr V
  .exact Or.inr V
  .exact Or.inl e) u
 clear_value ae;refine b2.pick F V (λ_ o=>o) aD λaP m3 _ _ b3 f3=>?_;have t3:=IT.mn _ _ _ _ _ (BS.le (B:=[d.size,m.size]) aa f3) t2;refine⟨λ_=>b3.iH IT.mn Z aL t3 trivial V _,λ_=>?_⟩;refine(wa (b3.hS hS) (t3.1.le (bA _ _)) (sV ap.2) (iG.le (bA _ _) t3.2) ap.1).mono λ_ f⟨N,q,C,e,A4,hl,x4⟩=>⟨(b3.lw F λ_ o=>o).dv (x4.fz _),N,q,e,?_⟩;have b4:=b3.to (x4.fz _) (b3.s.r.ext x4);intro m5 m6;obtain⟨b6,-,-⟩:=b4.box (S:=a) (m1:=m5) (m2:=m6) rfl rfl rfl;obtain⟨x6,-,-⟩:=kE (M:=f) (d:=m5) (c:=m6) rfl rfl rfl;clear_value m6;have A6:vv ([f.size,d.size,m.size]++a) m m6 N q x.1 C:=A4.re (x6.fz []) aL (λh r=>⟨by
  rcases List.mem_cons.1 r with e|e
  .exact Or.inr V
  .exact Or.inl e,b6.hS hS h r⟩) b3.s.f.size
 have ok:DJ (C.map (·.1)):=hl▸ap.1;have aX:=A6.len;have l4:C.length<=4:=by simpa using ok.oA
 have l0:0<C.length:=by simpa using ok.iV
 have cl:∀g∈C,g.1.dq.length<=10^12:=λg A=>(vv.oA ok A).oA;refine b6.pick F V (λ_ o=>o) (q.len:Int) λp i f0 f1 b7 f7=>?_;have A7:=A6.re f7 (S':=[f.size,d.size,m.size]++a) (by simp[aa]) (λh r=>⟨Or.inl r,b7.hS hS h r⟩) (ad _);let⟨g,A⟩:=cG C p.toNat;let⟨ac,h,g0,g1,g2,g3,g4,aJ,aK⟩:=A7.iA V A;refine⟨f0,V,ac,g0,h,g1,_,g2,_,g3,g.2,g4,?_⟩;intro m8 m9;obtain⟨b9,-,-⟩:=b7.box (S:=a) (m1:=m8) (m2:=m9) rfl rfl rfl;obtain⟨x9,-,-⟩:=kE (M:=i) (d:=m8) (c:=m9) rfl rfl rfl;clear_value m9;have A9:vv ([i.size,f.size,d.size,m.size]++a) m m9 N q x.1 C:=A7.re (x9.fz []) aL (λh r=>⟨by
  rcases List.mem_cons.1 r with e|e
  .exact Or.inr V
  .exact Or.inl e,b9.hS hS h r⟩) (ad _)
 have iH:∀{l:E}{T:O}{ar:List bz×List dy}{Q:Nat},BS [i.size,f.size,d.size,m.size] b c m Q l->IT (bG ([i.size,f.size,d.size,m.size]++a) l) T q ar->Q<=P+10->PP IT Tr a b c m (P+10) (.agg #[O.v T,O.v q]) (ah l d.size 0 [.s T,.s q]):=λh u o=>h.iH IT.mn Z aL u trivial o _;refine⟨λ_=>iH b9 (A9.it V cl) V,λhn=>?_⟩;have hB:∀h∈[b],h∈[i.size,f.size,d.size,m.size]++a:=by simp[aa]
 have W:∀{l n:E}{C:List (dy×O)},vv ([i.size,f.size,d.size,m.size]++a) m l N q x.1 C->Fz [b] l n->vv ([i.size,f.size,d.size,m.size]++a) m n N q x.1 C:=λo p=>o.re p hB (λh r=>⟨Or.inl r,aO (o.lt h r) p.size⟩) (ad _);refine b9.pick F V (λ_ o=>o) 8 λaP H _ _ j au=>?_;have U:=W A9 au;have ay:Le (bG (q.D::([f.size,d.size,m.size]++a)) i) (bG (q.D::([i.size,f.size,d.size,m.size]++a)) H):=(x9.bG λh r=>by
  simp only[cZ,eE,aV]at r⊢;rcases r with e|e|e
  .exact Or.inl (Or.inl e)
  .exact Or.inr V
  .exact Or.inl (Or.inr e)).trans (au.df (by simp[aa]))
 have ha:=aJ.le ay;have r:=aK.le ay;have az:∀{l n:E},Fz [b] l n->Le (bG (q.D::([i.size,f.size,d.size,m.size]++a)) l) (bG (q.D::([i.size,f.size,d.size,m.size]++a)) n):=λp=>p.df (by simp[aa]);have G:=vv.oA ok (aq A);have done:∀{l:E}{Q:Nat}{D:List Ce}{aE:dy},BS [i.size,f.size,d.size,m.size] b c m Q l->vv ([i.size,f.size,d.size,m.size]++a) m l N q x.1 C->lj (bG (q.D::([i.size,f.size,d.size,m.size]++a)) l) D aE->Q<=P+10->
  0<=p/\p<(q.len:Int)/\fJ l q.D (q.off+p.toNat*5) 5/\(eF [i.size,f.size,d.size,m.size] l (ah l q.D (q.off+p.toNat*5) D)/\PP IT Tr a b c m (P+10) (.agg #[O.v N,O.v q]) (ah (ah l q.D (q.off+p.toNat*5) D) d.size 0 [.s N,.s q])):=λ{l Q D aE} h K hp hQ=>by
  let⟨X,ps,tt⟩:=K.aad h.s.f V cl (k:=p.toNat) V hp
  have yq:=K.g.bn
  exact⟨f0,V,X,λw R=>bd _ _ _ _ λe=>K.nq (by rw[<-e];exact bI _ R),iH ⟨h.s.put Z yq.1 _ _,λw R=>by rw[aw];exact h.gF w R⟩ tt hQ⟩
 have v:∀{l n:E}{Q:Nat},BS [i.size,f.size,d.size,m.size] b c m Q l->Fz [b] l n->∀s,af n i.size s=af l i.size s:=λh p s=>kg p F (h.gF _ aL) s;have Y:∀{l n:E}{Q:Nat},BS [i.size,f.size,d.size,m.size] b c m Q l->Fz [b] l n->∀s,af n f.size s=af l f.size s:=λh p s=>kg p F (h.gF _ aL) s;have am:=U.dq (aq A) G.oA;have ax:=j.hS hS;have lq:∀w∈q.D::([i.size,f.size,d.size,m.size]++a),w<H.size:=λw R=>(List.mem_cons.1 R).elim (λe=>e▸U.g.bn.2) (ax w);have lJ:∀(ls:List Int){D:List Ce}{ag:Nat},D=ls.map Ce.i->ag=ls.length->0<ls.length/\ls.length<=100->∀{ak:Int->E->Prop},(∀u n,BS [i.size,f.size,d.size,m.size] b c m (P+4) n->vv ([i.size,f.size,d.size,m.size]++a) m n N q x.1 C->Le (bG (q.D::([i.size,f.size,d.size,m.size]++a)) H) (bG (q.D::([i.size,f.size,d.size,m.size]++a)) n)->(∀s,af n i.size s=af (H.push (.cells (bt D) aA)) i.size s)->(∀s,af n f.size s=af (H.push (.cells (bt D) aA)) f.size s)->ak u n)->
  aN cg 43 [vp b 0,O.v (.mk H.size 0 ag ag)] (H.push (.cells (bt D) aA)) λai n=>eF [i.size,f.size,d.size,m.size] (H.push (.cells (bt D) aA)) n/\∃u:Int,ai=vi u/\ak u n:=λls{D ag} h1 h2 h3{ak} hk=>by
  have x:=J.push H (.cells (bt D) aA)
  have L:=j.to (x.fz _) (j.s.r.ext x)
  exact(zY j.s V ls h1 h2 h3).mono λ_ n⟨u,e,_,aS,p⟩=>⟨(L.lw F λ_ o=>o).dv p,u,e,hk u n (L.to p aS.r) (W U ((x.fz _).trans p)) (az ((x.fz _).trans p)) (v L p) (Y L p)⟩
 refine⟨λ_=>?_,λ_=>⟨λ_=>?_,λ_=>⟨λ_=>?_,λ_=>⟨λ_=>?_,λ_=>?_⟩⟩⟩⟩
 .refine(qF j.s.r V (r.le (bA _ _)) (oh G.cR)).mono λ_ ab⟨T,I,e,al,aF,_,aj,t⟩=>⟨(j.lw F λ_ o=>o).dv t,T,e,v j t _,v j t _,v j t _,v j t _,Y j t _,?_⟩;exact done (aE:=⟨g.1.params,I,g.1.aS,g.1.ak,g.1.dq⟩) (j.to t aj) (W U t) ⟨ac,T,g.2,rfl,ha.le (az t),GI.done (GI.any al) lq (by have:=G.cR;show I.length<=_;omega),(W U t).dq (aq A) G.oA⟩ V
 .have x:=(J.push H (.cells (bt [.i 0,.i 1,.i (cT (g.1.ak+1)),.i 2001,.i (-1)]) aA)).fz [b];exact⟨v j x _,v j x _,v j x _,v j x _,Y j x _,lJ [0,1,cT (g.1.ak+1),2001,-1] rfl rfl aL λu n b' K le I e4=>⟨I _,I _,I _,I _,e4 _,done (aE:=⟨g.1.params,g.1.cR,g.1.aS,u,g.1.dq⟩) b' K ⟨ac,h,g.2,rfl,ha.le le,r.le le,K.dq (aq A) G.oA⟩ V⟩⟩
 .have x:=(J.push H (.cells (bt [.i 0,.i 1,.i 9]) aA)).fz [b];have cl:=am.len;have cc:=am.cap;have c0:=G.iV;have cf:=G.oA;have ew:cT ((g.2.len:Int) -1)=((g.2.len -1:Nat):Int):=by rw[aQ V V];omega
  rw[ew];refine⟨dg 0,V,V,v j x _,v j x _,v j x _,v j x _,v j x _,Y j x _,lJ [0,1,9] rfl rfl aL λu n b' K le I e4=>⟨I _,I _,I _,I _,I _,e4 _,done (aE:=⟨g.1.params,g.1.cR,u,g.1.ak,g.1.dq.take (g.2.len -1)⟩) b' K ⟨ac,h,g.2.cut 0 (g.2.len -1) 6,rfl,ha.le le,r.le le,eS.Tl (K.dq (aq A) G.oA) V⟩ V⟩⟩
 .refine(JE ax (by simp[aa]) j.s.r V).mono λ_ ab⟨T,I,e,hd,aj,t⟩=>⟨(j.lw F λ_ o=>o).dv t,T,e,Y j t _,?_⟩;exact iH (ar:=(I,_)) (j.to t aj) ⟨hd,((W U t).it V cl).2⟩ V
 .have aW:=am.len;have aU:=G.iV;refine j.pick F V (λ_ o=>o) (g.2.len:Int) λaR ab j0 j1 L t=>?_;have I:=W U t;obtain⟨-,-,-,-,-,-,aG,-,-⟩:=I.iA V A;let⟨ar,hz⟩:=cG g.1.dq aR.toNat;let⟨a',jj,aH,hj,e0,e1,e2,e3,e4,e5⟩:=(I.dq (aq A) G.oA).aF hz;have gF:∀{h s:Nat}{ai:Value},af (bG (q.D::([i.size,f.size,d.size,m.size]++a)) ab) h s=some ai->af ab h s=some ai:=λo=>(eP.1 o).2;refine⟨f0,V,g.2,aG,j0,V,_,gF e0,_,gF e1,_,gF e2,_,gF e3,_,gF e4,_,gF e5,?_⟩;have hZ:∀w∈q.D::(Ks C++([i.size,f.size,d.size,m.size]++a)),w<ab.size:=λw R=>by
   rcases List.mem_cons.1 R with e|e
   .rw[e];exact I.g.bn.2
   .rcases List.mem_append.1 e with e|e
    .obtain⟨X,hw,rfl⟩:=List.mem_map.1 e;exact(I.c X hw).bn.2
    .exact I.lt w e
  refine(GN hZ L.s.r V (aH.le (bA _ _)) (hj.le (bA _ _)) (G.je ar (aq hz))).mono λ_ aY⟨z',a2,j2,e,aI,aM,_,aT,K⟩=>⟨(L.lw F λ_ o=>o).dv K,_,_,_,_,_,_,e,?_⟩;have aj:=W I K;have al:=L.to K aT;let⟨X,aF⟩:=aj.wr al.s.f A (av hz) (cs:=[.i z'.op,.i z'.dst,.i z'.bP,.i z'.bY,.s a2,.s j2]) (y:=z') ⟨a2,j2,rfl,aI,aM⟩;have yc:=(aj.c g (aq A)).bn;have yq:=I.g.bn;refine⟨kg K F yq _,Y L K _,j0,V,X,λh r=>bd _ _ _ _ λe=>(aj.nc g (aq A)) (by rw[<-e];exact bI _ r),iH ⟨al.s.put Z yc.1 _ _,λw R=>by rw[aw];exact al.gF w R⟩ (aF.it bE λX hw=>?_) V⟩;rcases cB hw with e|e
  .exact cl X e
  .rw[e];simpa using G.oA
def JF(f:∀d∈a,d<m.size)(l:b∈a)(d:Rd b c P m)(K:P+2000+4*(300+40*Cg 18)<=10^16):aN cg 55 [vp b 0] m (PP IT Tr a b c m (P+50+4*(300+40*Cg 18))):=by
 apply Co (b,0);simp -zeta only[aC,aB];have e:=d.lt;intro g;have z1:g.size=m.size+1:=by simp[g]
 obtain⟨b1,-⟩:BS [m.size] b c m P g/\True:=⟨(BS.lJ (S:=a) d _).1,trivial⟩;clear_value g;refine b1.call (S:=a) e (λ_ h=>h) (Im (b1.hS f) (by simp[l]) b1.s.r V) λH Q R o r t2 b2 I=>?_;intro y p;obtain⟨b4,w,-⟩:=b2.box (S:=a) (m1:=y) (m2:=p) rfl rfl rfl;clear_value p;have C:=IT.mn _ _ _ _ _ w t2;have k:b∈[o.size,m.size]++a:=by simp[l]
 refine b4.pick e V (λ_ h=>h) 4 λL M _ _ b5 u=>?_;have q:=IT.mn _ _ _ _ _ (BS.le l u) C;refine⟨λ_=>?_,λ_=>b5.call (S:=a) e (λ_ h=>h) (uF (b5.hS f) k b5.s.r V q r 14) λt B G z F n j v=>j.iH IT.mn d aL n trivial V _⟩;refine b5.call (S:=a) e (λ_ h=>h) (Ic (b5.hS f) k b5.s.r V q r) λs A T N E D b6 J=>?_;intro O;let⟨i,x⟩:=b6.put (S:=a) d (by simp:o.size∈_) [.s s,.s A];exact i.call (S:=a) e (λ_ h=>h) (uF (i.hS f) k i.s.r V (IT.mn _ _ _ _ _ x D) E 14) λt B G z F n j v=>j.iH IT.mn d aL n trivial V _
end
end
end Go.Proofs.YtkicoahejfbjhaaGreat
