/- Part of a proof. -/
import Derived.Test.YtkoifinbblcbiaaGreatSH02
import Derived.Test.YtkoifinbblcbiaaGreatSH03
import Derived.Test.YtkoifinbblcbiaaGreatSH04
set_option linter.all false
set_option maxHeartbeats 8000000
set_option maxRecDepth 100000
namespace Go.Proofs.YtkoifinbblcbiaaGreat
open Go.Vc
section
variable{m:E}{s:O}{l:List Int}{h:List bN}{w:Int}{a:Nat}
def eO(c:ap m s l)(n:l.length<=1000000000):oL 56 [O.v s] m l:=by
 apply tO;have b:=c.len;refine⟨λh=>?_,λh=>?_⟩
 .cases s with
  |nil=>simp at b;have:l=[]:=List.length_eq_zero_iff.1 b.symm;subst this;exact⟨.nil,rfl,gZ.nil _ _ _ _,J.az _⟩
  |mk a o e d=>simp at h
  |Af a o d=>simp at h
 .intro d;have a:J m d:=(J.az m).aJ _;have f:gZ m d aA 1 (.mk m.size 0 0 0) []:=gZ.new (J.az m) aA 1 [] 0 aL;refine gZ.append (zs:=[.i 0]) (d:=l.map Ce.i) f a (by simp[b]) (c.ext a).Ix bF λr o a e g i j k=>⟨r,rfl,by simpa using a,e⟩
def sG(g:ap m s l)(b:Int):aN cq 110 [O.v s,vi b] m λv i=>∃r:Int,v=vi r/\J m i/\((r= -1/\b∉l)\/(b∈l/\r=tA l b)):=by
 apply tQ;have j:=g.len;refine dV (n:=l.length) (j▸g.gX) (λk i=>J m i/\b∉l.take k) ⟨J.az _,aL⟩ ?_;rintro k u I μ t ⟨f,e⟩ p
 refine dit (λh=>?_) λh=>?_
 .let⟨x,d⟩:=cG l k;refine⟨V,V,x,by simpa using f.af (g.aH d),λc=>?_,λc=>p V _ ⟨f,?_⟩⟩
  .simp at c;subst c;refine⟨_,rfl,f,Or.inr ⟨aq d,?_⟩⟩;have:tA l b=k:=by
    unfold tA;rw[List.findIdx_eq (aw d)];refine⟨by have:=(List.getElem?_eq_some_iff.1 d).2;simp[this],λo q=>?_⟩;simp;intro a;apply e;rw[<-a];exact List.mem_take_iff_getElem.2 ⟨o,V,rfl⟩
   rw[this]
  .rw[aU d];simp at c;intro a;rcases List.mem_append.1 a with a|a
   .exact e a
   .simp at a;exact c a
 .rw[bY V]at e;exact⟨_,rfl,f,Or.inl ⟨rfl,e⟩⟩
def lY(c:ap m s l)(n:Int):dt cq 169 [O.v s,vi n] m (n∈l):=by
 apply rL;refine(sG c n).mono ?_;rintro _ f ⟨r,rfl,d,h⟩;refine⟨_,rfl,eV ?_ d⟩;simp only[oJ,ar];rcases h with⟨rfl,h⟩|⟨b,e⟩
 .exact⟨λa=>V,λa=>absurd a h⟩
 .exact⟨λ_=>b,λ_=>V⟩
def CK{t:O}{r:List Int}(d:ap m s l)(i:ap m t r):dt cq 172 [O.v s,O.v t] m (l=r):=by
 apply tP;have j:=d.len;have q:=i.len;refine⟨λh=>bV (λe=>by subst e;simp at h;omega) (J.az _),λh=>?_⟩;simp at h;refine dV (n:=l.length) (j▸d.gX) (λk a=>J m a/\l.take k=r.take k) ⟨J.az _,aL⟩ ?_;rintro k u I μ p ⟨b,g⟩ o
 refine⟨λh=>?_,λh=>iS (by simp at h;rwa[bY V,bY V]at g) b⟩;simp only[ar]at h;let⟨x,f⟩:=cG l k;let⟨y,c⟩:=cG r k;refine⟨V,V,x,by simpa using b.af (d.aH f),V,V,y,by simpa using b.af (i.aH c),λa=>bV (λe=>?_) b,λa=>o V _ ⟨b,?_⟩⟩
 .subst e;rw[f]at c;simp at c;simp at a;exact a c
 .rw[aU f,aU c,g];simp at a;rw[a]
def iv{a:O}(i:cW m a h)(u:w<=9223372036854775807):
 aN cq 153 [O.v a,vi w] m λv p=>∃(j:Int)(e:Bool),v=.tuple #[vi j,vb e]/\(e=true<->gB h w)/\(e=true->j=ix w)/\J m p:=by
 apply Gq
 have k:=i.len
 have t:=i.gX
 refine⟨λc=>?_,λc=>?_⟩
 .simp at c
  have l:cQ (w -1000)=w -1000:=aQ V V
  have o:(ix w:Int)=w -1000:=by unfold ix;omega
  rw[l]
  refine⟨λg=>?_,λg=>?_⟩
  .simp at g
   let⟨f,b⟩:=cG h ((w -1000).toNat)
   obtain⟨r,s,n,_⟩:=i.aH b
   refine⟨V,V,f.aP,n,_,_,rfl,?_,λ_=>o.symm,J.az _⟩
   simp only[kJ,ar]
   refine⟨λa=>⟨c,f,b,a⟩,λ⟨_,q,d,a⟩=>?_⟩
   unfold ix at d
   rw[b]at d;simp at d;subst d;exact a
  .simp at g
   refine⟨_,_,rfl,⟨sx,λ⟨_,f,b,_⟩=>?_⟩,sx,J.az _⟩
   have:=aw b
   omega
 .simp at c
  exact⟨_,_,rfl,⟨sx,λk=>oh k.1⟩,sx,J.az _⟩
def Lz{b:O}(f:af m a 8=some (O.v b))(g:cW m b h)(i:w<=9223372036854775807):dt cq 97 [vp a 0,vi w] m (gB h w):=by
 apply ux (a,0);refine⟨b,f,(iv g i).mono ?_⟩;rintro _ k ⟨c,d,rfl,e,_,j⟩;exact⟨c,d,rfl,eV e j⟩
def Et(e:ap m s l)(q:l.length<=100000000):oL 173 [O.v s] m (kX l):=by
 apply yY;have p:=e.len;refine ez (n:=l.length) V (λk s a=>J m a/\gZ m a aA 1 s ((kX (l.take k)).map Ce.i)) ⟨J.az _,by simpa[kX]using gZ.nil m m aA 1⟩ ?_;rintro k s r I μ o ⟨b,a⟩ f
 refine dit (λh=>?_) λh=>?_
 .let⟨x,c⟩:=cG l k;refine⟨V,V,x,by simpa using b.af (e.aH c),λd=>?_,λg=>?_⟩
  .intro t;refine nZ a b (by have:=od (l.take k);simp at this;omega) λv u i j=>f V _ _ ⟨j,?_⟩
   rw[aU c,pv];have:kX [x]=[x]:=by simp at d;simp[kX,d]
   rw[this];exact i
  .refine f V _ _ ⟨b,?_⟩
   rw[aU c,pv];have:kX [x]=[]:=by simp at g;simp[kX];omega
   rw[this,dY];exact a
 .rw[bY V]at a;exact⟨s,rfl,a,b⟩
def yx(g:ap m s l):dt cq 99 [O.v s] m (SE l):=by
 apply En;refine(iZ g 170 #[] #[] bh (λx=>x≠0) (λx _ i d=>?_)).then λb j f d=>⟨b,rfl,eV ?_ d⟩
 .simp only[eF,dY];apply Al;exact eV aL (J.az _)
 .have e:(!b)=true<->¬(b=true):=aL;rw[e,f];unfold SE;constructor
  .intro h n c;exact dQ λa=>h ⟨n,c,a⟩
  .rintro h ⟨n,c,a⟩;exact a (h n c)
def wg{am U:O}{b:cR}(ac:fj m am U b)(g1:af m a 1=some (O.v U)){x:Instr}(hc:zS b x){o j:O}(z:ap m o x.args)(aQ:x.args.length<=1000000)(ao:(x.op=16\/x.op=17)->1<=x.args.length):
 aN cq 95 [vp a 0,xv x o j] m λaE T=>∃s l,aE=.tuple #[O.v s,O.v l]/\ap T s (bU b x)/\ap T l (if x.op=9\/x.op=24 then fK b x 0 x.args else[])/\J m T/\(s=.nil\/s.D=o.D\/m.size<=s.D)/\(l=.nil\/m.size<=l.D):=by
 apply sQ (a,0)
 simp -zeta only[aD,aC]
 intro c
 have v:J m c:=(J.az m).aJ _
 have Q:∀p∈[m.size],p<c.size:=by simp[c]
 have s1:c.size=m.size+1:=by simp[c]
 have ab:=z.len
 have aH:=z.cap
 have N:ap c .nil []:=⟨rfl,aL,aL,aL⟩
 clear_value c
 refine⟨λe=>?_,λq=>⟨λe=>?_,λt=>⟨λe=>?_,λr=>?_⟩⟩⟩
 .simp only[bR,aI]at e
  refine⟨o,.nil,rfl,?_,by rw[ae V];exact N,v,Or.inr (Or.inl rfl),Or.inl rfl⟩
  unfold bU;rw[an V];exact z.ext v
 .simp only[bR,aI]at e
  simp only[br,aj]at q
  refine⟨V,V,V,_,.nil,rfl,?_,by rw[ae V];exact N,v,Or.inr (Or.inl ?_),Or.inl rfl⟩
  .unfold bU;rw[ae V,an e]
   exact eU.TS (z.ext v) (ao e)
  .cases o with
   |nil=>simp at ab;omega
   |Af p d f=>simp at ab;omega
   |mk p d l f=>rfl
 .simp only[bR,aI]at e
  simp only[br,aj]at q t
  let⟨h0,aR,K⟩:=hc e
  have aP:=ac.cF.len
  have aO:=aw K
  have aB:∃(w:O->O->Int->E->Prop)(μ0:O->O->Int->E->Nat),w O.nil O.nil (0:Int) c/\(∀(ak:O)(cT:O)(i:Int)(d:E),w ak cT i d->∃k:Nat,i=k/\k<=x.args.length/\J c d/\gZ c d aA 1 ak ((jv b x k).map Ce.i)/\gZ c d aA 1 cT ((fK b x 0 (x.args.take k)).map Ce.i)/\(ak≠.nil->cT≠.nil->ak.D≠cT.D))/\
   (∀(ak cT:O)(k:Nat)(d:E),k<=x.args.length->J c d->gZ c d aA 1 ak ((jv b x k).map Ce.i)->gZ c d aA 1 cT ((fK b x 0 (x.args.take k)).map Ce.i)->(ak≠.nil->cT≠.nil->ak.D≠cT.D)->w ak cT k d)/\(∀o p i m,μ0 o p i m=((x.args.length:Int) -i).toNat):=
   ⟨λak cT i d=>∃k:Nat,i=k/\k<=x.args.length/\J c d/\gZ c d aA 1 ak ((jv b x k).map Ce.i)/\gZ c d aA 1 cT ((fK b x 0 (x.args.take k)).map Ce.i)/\(ak≠.nil->cT≠.nil->ak.D≠cT.D),λ_ _ i _=>((x.args.length:Int) -i).toNat,
    ⟨0,rfl,dx _,J.az _,by simpa[jv,iH]using gZ.nil c c aA 1,by simpa[fK]using gZ.nil c c aA 1,λh=>absurd rfl h⟩,λ_ _ _ _ h=>h,λak cT k d f g u y A=>⟨k,rfl,f,g,u,y,A⟩,λ_ _ _ _=>rfl⟩
  let⟨w,μ0,aq,ay,ag,hμ⟩:=aB
  refine⟨w,μ0,aq,?_⟩
  intro ak cT i d hI
  obtain⟨k,rfl,hk,aa,o1,o2,I⟩:=ay ak cT i d hI
  have L:=v.trans aa
  refine dit (λh=>?_) λh=>?_
  .let⟨y,R⟩:=cG x.args k
   obtain⟨a',l',c',aG,av,aJ,k0,k1,_⟩:=(ac.ext L).cF.aH K
   have ai:(x.args.take k).length=k:=bF
   have al:jv b x (k+1)=jv b x k++iH b x k [y]:=by
    unfold jv;rw[aU R,vO,ai,bT]
   have ah:fK b x 0 (x.args.take (k+1))=fK b x 0 (x.args.take k)++fK b x k [y]:=by
    rw[aU R,rf,ai,bT]
   have aK:(jv b x k).length<=k:=bJ (uf _ _ _ _) bF
   have aM:(fK b x 0 (x.args.take k)).length<=k:=by
    have:∀(l:List Int)(j:Nat),(fK b x j l).length<=l.length:=by
     intro l;induction l with
     |nil=>intro j;exact ad _
     |cons aF l S=>intro j;have:=S (j+1);simp only[fK];split<;>simp<;>omega
    have:=this (x.args.take k) 0;omega
   have Z:cQ ((k:Int)+1)=((k+1:Nat):Int):=jX (n:=x.args.length) V V
   refine⟨V,V,y,by simpa using L.af (z.aH R),U,L.af g1,h0,V,l',k1,(lY av _).aG aa Q λp M hb u F=>⟨p,rfl,λau=>?_,λar=>?_⟩⟩
   .have A:=(LF K k).2 (hb.1 au)
    intro g
    have s4:g.size=M.size+1:=by simp[g]
    have P:=o1.ext u
    have ax:cT.len=(fK b x 0 (x.args.take k)).length:=by have:=o2.len;simp at this;omega
    refine gZ.append (zs:=[.i 0]) (d:=[.i y]) ((o2.ext u).ext (J.push _ _)) (F.aJ _) rfl (cz.push M _ _).iE bF λs m5 W D q3 q4 X Y=>⟨J.tL (F.aJ _) D Q,?_⟩
    rw[Z]
    have az:=u.size
    refine⟨ag _ _ _ _ V D ?_ ?_ ?_,by rw[hμ,hμ];omega⟩
    .rw[al]
     have:iH b x k [y]=[]:=by simp only[iH];rw[an A]
     rw[this,dY]
     rcases P.lt with e|e
     .subst e;exact⟨P.len,Or.inl rfl⟩
     .refine P.congr ?_
      rw[X _ (show _<g.size by omega) (λC=>?_),mS,ae V]
      by_cases B:ak=.nil
      .subst B
       rcases o2.D with r|r
       .exact absurd r C
       .simp;omega
      .exact I B C
    .rw[ah]
     have:fK b x k [y]=[y]:=by simp only[fK];rw[an A]
     rw[this];simpa using W
    .intro G H
     rcases Y with⟨_,e⟩|⟨q,t,_⟩|e
     .exact absurd e H
     .rw[t];exact I G q
     .rw[e]
      rcases P.lt with f|f
      .exact absurd f G
      .show ak.D≠g.size;omega
   .have A:¬nI b x k=true:=λhh=>fb hb ar ((LF K k).1 hh)
    intro g
    have s4:g.size=M.size+1:=by simp[g]
    have P:=o2.ext u
    have ax:ak.len=(jv b x k).length:=by have:=o1.len;simp at this;omega
    refine gZ.append (zs:=[.i 0]) (d:=[.i y]) ((o1.ext u).ext (J.push _ _)) (F.aJ _) rfl (cz.push M _ _).iE bF λs m5 W D q3 q4 X Y=>⟨J.tL (F.aJ _) D Q,?_⟩
    rw[Z]
    have az:=u.size
    refine⟨ag _ _ _ _ V D ?_ ?_ ?_,by rw[hμ,hμ];omega⟩
    .rw[al]
     have:iH b x k [y]=[y]:=by simp only[iH];rw[ae A]
     rw[this];simpa using W
    .rw[ah]
     have:fK b x k [y]=[]:=by simp only[fK];rw[ae A]
     rw[this,dY]
     rcases P.lt with e|e
     .subst e;exact⟨P.len,Or.inl rfl⟩
     .refine P.congr ?_
      rw[X _ (show _<g.size by omega) (λC=>?_),mS,ae V]
      by_cases B:cT=.nil
      .subst B
       rcases o1.D with r|r
       .exact absurd r C
       .simp;omega
      .exactλe5=>I C B e5.symm
    .intro G H
     rcases Y with⟨_,e⟩|⟨q,t,_⟩|e
     .exact absurd e G
     .rw[t];exact I q H
     .rw[e]
      rcases P.lt with f|f
      .exact absurd f H
      .show g.size≠cT.D;omega
  .have g:x.args.take k=x.args:=bY V
   rw[g]at o2
   unfold jv at o1
   rw[g]at o1
   have A:=uf b x x.args 0
   have u:∀(l:List Int)(j:Nat),(fK b x j l).length<=l.length:=by
    intro l;induction l with
    |nil=>intro j;exact ad _
    |cons aF l S=>intro j;have:=S (j+1);simp only[fK];split<;>simp<;>omega
   have y:=u x.args 0
   refine⟨ak,cT,rfl,?_,?_,L,?_,?_⟩
   .unfold bU;rw[ae V,ae V,an e];exact ap.gE o1 V
   .rw[an e];exact ap.gE o2 V
   .rcases o1.D with f|f
    .exact Or.inl f
    .exact Or.inr (Or.inr V)
   .rcases o2.D with f|f
    .exact Or.inl f
    .exact Or.inr V
 .simp only[br,aj]at q t r
  refine⟨.nil,.nil,rfl,?_,by rw[ae V];exact N,v,Or.inl rfl,Or.inl rfl⟩
  unfold bU;rw[ae V,ae V,ae V];exact N
end
section
variable{b:E}{i e:Nat}{d p g k h a j:O}{c:cR}{s:St}{f:aY}{x:Instr}
def Il:∀(l:List (Int×Int))(k v j:Int),vB (J2 l k v) j=if j=k then v else vB l j
 |[],k,v,j=>by simp[J2,vB]
 |(a,c)::g,k,v,j=>by
  simp only[J2];split
  .rename_i h;subst h;simp only[vB];split<;>simp_all
  .rename_i h;simp only[vB];split
   .rename_i b;subst b;rw[ae (λe=>h e.symm)]
   .exact Il g k v j
def Qe(l:List Int)(k:Nat)(a:Nat):eB (l.take k) a<=eB l a:=by
 have:eB l a=eB (l.take k) a+eB (l.drop k) a:=by rw[<-lW,dk]
 have:=iG (l.drop k) a;omega
def wo{m:O}{h:List bN}(Y:af b i 8=some (O.v m))(L:cW b m h){t:Nat->Int}(H:fP h t){c:bN}(W:c∈h){f:O}(X:ap b f c.aF)(aB:h.length<=2000000000):
 dt cq 171 [vp i 0,.agg #[vi c.aP,vi c.km,O.v f]] b (c.aP=1\/lp h c.aF):=by
 apply sT (i,0)
 unfold nU
 simp -zeta only[aD,aC]
 intro e
 have z:J b e:=(J.az b).aJ _
 have s1:e.size=b.size+1:=by simp[e]
 have Z:∀g∈[b.size],g<e.size:=by simp[s1]
 have az:=(H.cell c W).fl
 have aA:=X.len
 have aE:=L.len
 clear_value e
 refine⟨λu=>iS (Or.inl (by simpa using u)) z,λu=>?_⟩
 simp only[aj]at u
 intro B
 have ah:J e B:=(J.az e).aJ _
 have ar:DR B e.size []:=⟨#[],0,by simp[B],rfl⟩
 clear_value B
 refine dV (n:=c.aF.length) V (λk d=>J e d/\∃l,DR d e.size l/\(∀a:Nat,vB l a=eB (c.aF.take k) a)/\∀w∈c.aF.take k,1000<=w->(aM h w).aP+eB (c.aF.take k) (ix w)<=999999) ⟨ah,[],ar,λa=>by simp[vB,eB],aL⟩ ?_
 rintro k m3 ay μ hk ⟨D,l,ab,N,x⟩ ag
 have A:=z.trans D
 refine dit (λh2=>?_) λh2=>?_
 .let⟨w,o⟩:=cG c.aF k
  have ac:1000<=w->gB h w:=λm=>H.field W (aq o) m
  have ax:w<=9223372036854775807:=by
   rcases dR (1000<=w)with q|q
   .have:=aw (bS (ac q)).1;unfold ix at this;omega
   .omega
  refine⟨V,V,w,by simpa using A.af (X.aH o),m,A.af Y,(iv (cW.ext A L) ax).aG D Z ?_⟩
  rintro _ m4 ⟨a,g,rfl,v,ai,F⟩
  have p:=D.trans F
  have aN:=z.trans p
  have ao:e.size<m3.size:=by obtain⟨T,S,G,_⟩:=ab;exact(Array.getElem?_eq_some_iff.1 G).1
  have P:DR m4 e.size l:=by obtain⟨T,S,G,r⟩:=ab;exact⟨T,S,by rw[F.same _ ao];exact G,r⟩
  have j:∀a:Nat,eB (c.aF.take (k+1)) a=eB (c.aF.take k) a+(if w=1000+(a:Int)then 1 else 0):=λa=>by
   rw[aU o,lW];simp[eB]
  refine⟨F,a,g,rfl,λU=>?_,λak=>?_⟩
  .have M:=v.1 U
   have I:=ai U
   subst I
   have ad:=iy M.1
   have aJ:=iG (c.aF.take k) (ix w)
   have aI:=kD (c.aF.take k) (ix w)
   have aF:(c.aF.take k).length<=3:=bF
   have e1:cQ (vB l (ix w)+1)=eB (c.aF.take (k+1)) (ix w):=by
    rw[N,j,an ad.symm];exact aQ V V
   refine⟨l,P,l,P,?_⟩
   rw[e1]
   intro m5 aa av am
   have E:J e m5:=⟨by rw[av];exact p.size,λg v=>by rw[am g V,p.same g v]⟩
   have R:=z.trans E
   let⟨K,aK⟩:=bS M
   obtain⟨f5,_,k0,_⟩:=(cW.ext R L).aH K
   have aG:=aw K
   have aH:=(H.cell _ (aq K)).hi
   have al:vB (J2 l (ix w) (eB (c.aF.take (k+1)) (ix w))) (ix w)=eB (c.aF.take (k+1)) (ix w):=by rw[Il,an rfl]
   have au:=j (ix w)
   rw[an ad.symm]at au
   have e2:cQ ((aM h w).aP+eB (c.aF.take (k+1)) (ix w))=(aM h w).aP+eB (c.aF.take (k+1)) (ix w):=aQ V V
   refine⟨J.tL p E Z,m,R.af Y,V,V,_,by simpa using k0,_,aa,trivial,trivial,?_⟩
   rw[al,e2]
   refine⟨λr=>bV (λs=>?_) R,λr=>ag V _ ⟨E,_,aa,λa=>?_,λC d y=>?_⟩⟩
   .rcases s with s|s
    .exact u s
    .have:=s w (aq o) M.1
     have:=Qe c.aF (k+1) (ix w)
     simp at r;omega
   .rw[Il]
    by_cases I:(a:Int)=ix w
    .have:a=ix w:=V
     subst this;rw[an rfl]
    .rw[ae I,N,j,ae V];omega
   .by_cases Q:C=w
    .subst Q;simp at r;omega
    .rw[j,ae (λt=>Q (by rw[iy y]at t;exact t.symm))]
     rw[aU o]at d
     rcases List.mem_append.1 d with d|d
     .have:=x C d y;omega
     .simp at d;exact absurd d Q
  .have s:¬gB h w:=fb v ak
   have E:w<1000:=by
    rcases dR (1000<=w)with q|q
    .exact absurd (ac q) s
    .omega
   refine ag V _ ⟨p,l,P,λa=>by rw[N,j,ae V];omega,λC d y=>?_⟩
   rw[j,ae V]
   rw[aU o]at d
   rcases List.mem_append.1 d with d|d
   .have:=x C d y;omega
   .simp at d;omega
 .rw[bY V]at x
  exact iS (Or.inr x) A
structure FP(b:E)(fb e:Nat)(f:aY)(g k h:O):Prop where
 g3:af b fb (e+3)=some (O.v g)
 g4:af b fb (e+4)=some (O.v k)
 g5:af b fb (e+5)=some (O.v h)
 ak:ap b g f.ak
 aR:ap b k f.aR
 ba:ap b h f.ba
def FP.ext{b c:E}{fb e:Nat}{f:aY}{g k h:O}(F:FP b fb e f g k h)(a:J b c):FP c fb e f g k h:=⟨a.af F.g3,a.af F.g4,a.af F.g5,F.ak.ext a,F.aR.ext a,F.ba.ext a⟩
def Ig{fb:Nat}{aS K fr:O}(l:RV b i 3 d p aS K fr c s)(ai:af b i 2=some (vi (bW c))){fs:List aY}(C:zR c s fs f x)(M:FP b fb e f g k h)(v:ap b a x.args)(aI:x.op=11)(aj:s.heap.length<=2000000000):
 dt cq 100 [vp i 0,vp fb e,xv x a j] b (vU c s.heap (aH f.ak (aH x.args 0))):=by
 apply sS (i,0) (fb,e)
 simp -zeta only[aD,aC]
 intro u
 have r:J b u:=(J.az b).aJ _
 have s1:u.size=b.size+1:=by simp[u]
 clear_value u
 have hl:∀B∈[b.size],B<u.size:=by simp[s1]
 have au:=v.len
 have aL:=M.ak.len
 have h2:=C.lz.2.2.1 V
 have q:0<=aH x.args 0/\aH x.args 0<f.ak.length:=C.arg _ (fA V V)
 have an:=C.F.pW q.1 q.2 C.MV
 have N:=M.ext r
 have S:=C.ok.heap
 have X:=C.ok.fm
 refine⟨K,r.af l.rC,g,N.g3,V,V,_,(v.ext r).pM V V,q.1,V,_,N.ak.pM q.1 q.2,?_⟩
 generalize aH f.ak (aH x.args 0)=w at*
 refine(iv (cW.ext r l.heap) an.2).aG (J.az _) hl ?_
 rintro _ L ⟨aa,B,rfl,T,ag,E⟩
 have z:=r.trans E
 refine⟨E,aa,B,rfl,λah=>bV (λm=>nb T ah m.1) z,λU=>?_⟩
 have Y:=yb T U
 have v:=ag (by simpa using U)
 subst v
 let⟨y,al⟩:=bS Y
 have R:=S.cell _ (aq y)
 have aO:=(R.ph al).2
 have aG:=aw y
 have aE:=l.heap.len
 let⟨D,W,k0,k1,k2⟩:=(cW.ext z l.heap).aH y
 refine⟨K,z.af l.rC,V,V,_,by simpa using k0,_,by simpa using k1,D,by simpa using k2,?_⟩
 intro m3 o
 have P:J L o:=((J.az L).aJ _).ah (ad _) _ _
 have s4:o.size=L.size+1:=by simp[o,m3,av]
 clear_value o
 have n:=z.trans P
 have ar:(eT c.bo).length<=12:=by
  have:=rB X.nK.types c.bo.length;rw[mX _ _ (ad _)]at this;exact this
 have az:(bW c)=((eT c.bo).length:Int):=rfl
 have aK:=l.fm.cF.len
 have aJ:=X.nK.len
 have e1:cQ ((aM s.heap w).km -bW c)=(aM s.heap w).km -bW c:=aQ V V
 refine⟨bW c,n.af ai,?_⟩
 rw[e1]
 refine⟨λF=>bV (λm=>by have:=m.2.1;simp at F;omega) n,λF=>⟨p,n.af l.cF,λG=>bV (λm=>by have:=m.2.2.1;simp at G;omega) n,λG=>?_⟩⟩
 simp at F G
 let⟨ao,Z⟩:=cG c.cF (((aM s.heap w).km -bW c).toNat)
 have am:dO c ((aM s.heap w).km -bW c)=ao:=by simp[dO,Z]
 let⟨a',l',c',ac,ak,ay,j0,j1,j2,j3,j4⟩:=(l.fm.ext n).cF.aH Z
 have ax:=ac.len
 have aF:=ak.len
 have aB:=W.len
 have aA:=R.fl
 refine⟨p,n.af l.cF,V,V,a',j0,l',j1,_,j2,_,j3,c',j4,?_⟩
 intro m5 A
 have Q:J o A:=((J.az o).aJ _).ah (ad _) _ _
 have s6:A.size=o.size+1:=by simp[A,m5,av]
 clear_value A
 have t:=n.trans Q
 have e3:cQ ((D.len:Int)+1)=(D.len:Int)+1:=aQ V V
 rw[e3]
 unfold vU
 rw[am]
 have aN:=E.size
 refine⟨λH=>⟨λI=>?_,λI=>bV (λm=>by have:=m.2.2.2.1;simp at I;omega) t⟩,λH=>bV (λm=>by have:=m.2.2.2.2.1;simp at H;omega) t⟩
 simp at H I
 refine(wo (t.af l.rC) (cW.ext t l.heap) S (aq y) (W.ext (P.trans Q)) aj).aG (J.az _) bF λb2 m7 ae ab _=>⟨b2,rfl,eV (ae.trans ?_) (t.trans ab)⟩
 exact⟨λhs=>⟨Y,V,V,V,V,hs⟩,λm=>m.2.2.2.2.2⟩
def Es{fb:Nat}{aS hp fr:O}(A:RV b i 3 d p aS hp fr c s){fs:List aY}(C:zR c s fs f x)(H:FP b fb e f g k h)(L:ap b a x.args)(aL:x.op=14\/x.op=19\/x.op=21\/x.op=16\/x.op=17)(aJ:s.heap.length<=2000000000):
 dt cq 101 [vp i 0,vp fb e,xv x a j] b ((x.op=14->gB s.heap (aH f.ak (aH x.args 0))/\(aM s.heap (aH f.ak (aH x.args 0))).aP<999999)/\(x.op=19->gB s.heap (aH f.ak (aH x.args 0))/\x.bQ<(aM s.heap (aH f.ak (aH x.args 0))).aF.length)/\
  (x.op=21->gB s.heap (aH f.ak (aH x.args 0))/\(aM s.heap (aH f.ak (aH x.args 0))).km∈cy c.bo x.bQ)/\((x.op=16\/x.op=17)->FL s.heap f x)):=by
 apply rD (i,0) (fb,e)
 simp -zeta only[aD,aC]
 intro Q
 have N:J b Q:=(J.az b).aJ _
 have s1:Q.size=b.size+1:=by simp[Q]
 clear_value Q
 have hl:∀B∈[b.size],B<Q.size:=by simp[s1]
 have a0:=L.len
 have aZ:=L.cap
 have a9:=H.ak.len
 have a3:=H.ba.len
 have h4:=C.lz
 have a6:=C.Gy
 have aK:1<=x.args.length:=V
 have aV:=h4.1
 clear h4
 have D:0<=aH x.args 0/\aH x.args 0<f.ak.length:=C.arg _ (fA V V)
 have aO:=C.F.pW D.1 D.2 C.MV
 have F1:=H.ext N
 have hI:=C.ok.heap
 have aE:FL s.heap f x<->(gB s.heap (aH f.ak (aH x.args 0))/\kX (aM s.heap (aH f.ak (aH x.args 0))).aF=cL f (x.args.drop 1)/\((aM s.heap (aH f.ak (aH x.args 0))).aP=1\/lp s.heap (aM s.heap (aH f.ak (aH x.args 0))).aF)/\(x.op=17->aH f.ba (aH x.args 0)=0)):=Tn
 rw[aE]
 refine⟨hp,N.af A.rC,g,F1.g3,V,V,_,(L.ext N).pM V V,D.1,V,_,F1.ak.pM D.1 D.2,?_⟩
 generalize aH f.ak (aH x.args 0)=w at*
 refine(iv (cW.ext N A.heap) aO.2).aG (J.az _) hl ?_
 rintro _ E ⟨ar,B,rfl,T,aG,Z⟩
 have X:=N.trans Z
 refine⟨Z,ar,B,rfl,λaI=>bV (λu=>?_) X,λaj=>?_⟩
 .have q:=nb T aI
  rcases aL with l|l|l|l
  .exact q (u.1 l).1
  .exact q (u.2.1 l).1
  .exact q (u.2.2.1 l).1
  .exact q (u.2.2.2 l).1
 have G:=yb T aj
 have aF:=aG (by simpa using aj)
 subst aF
 let⟨W,a8⟩:=bS G
 have ai:=hI.cell _ (aq W)
 have a7:=aw W
 have a4:=A.heap.len
 let⟨Y,ae,k0,k1,k2⟩:=(cW.ext X A.heap).aH W
 refine⟨hp,X.af A.rC,V,V,_,by simpa using k0,_,by simpa using k1,Y,by simpa using k2,?_⟩
 intro m3 z
 have aa:J E z:=((J.az E).aJ _).ah (ad _) _ _
 have s4:z.size=E.size+1:=by simp[z,m3,av]
 have kB:af z E.size 1=some (vi (aM s.heap w).km):=(cz.ah (m:=m3) (o:=0) (r:=[.i (aM s.heap w).aP,.i (aM s.heap w).km,.s Y]) (cz.push E _ _)).cg 1
 clear_value z
 have y:=X.trans aa
 have a_:=Z.size
 have F:∀B∈[E.size,b.size],B<z.size:=bF
 have a2:=ae.len
 refine⟨λl=>?_,λau=>⟨λl=>?_,λax=>⟨λl=>?_,λay=>?_⟩⟩⟩
 .simp at l
  refine eV ?_ y
  simp
  exact⟨λt=>⟨λ_=>⟨G,t⟩,λq=>V,λq=>V,λq=>V⟩,λt=>(t.1 l).2⟩
 .simp at l
  refine eV ?_ y
  simp
  exact⟨λt=>⟨λq=>V,λ_=>⟨G,V⟩,λq=>V,λq=>V⟩,λt=>oh ((t.2.1 l).2)⟩
 .simp at l
  refine⟨d,y.af A.bo,(tD (A.fm.ext y).bo C.ok.fm.nK.types _).aG (J.az _) F ?_⟩
  rintro _ m5 ⟨I,rfl,K,v⟩
  refine⟨v,I,rfl,v.da kB,(lY K _).aG v F λb2 m6 U ac ab=>⟨b2,rfl,eV (U.trans ?_) (y.trans ab)⟩⟩
  exact⟨λt=>⟨λq=>V,λq=>V,λ_=>⟨G,t⟩,λq=>V⟩,λt=>(t.2.2.1 l).2⟩
 .simp at au ax ay
  have R:x.op=16\/x.op=17:=V
  have e1:(Int.toNat (1:Int))=1:=rfl
  have e2:(Int.toNat (a.len:Int))=a.len:=V
  rw[e1,e2]
  have al:=Vj (L.ext y) aK
  have a5:=al.len
  have a1:(x.args.drop 1).length<=4:=bF
  refine⟨V,V,V,?_⟩
  refine ez (n:=(x.args.drop 1).length) V (λah s' I=>J z I/\gZ z I aA 1 s' ((cL f ((x.args.drop 1).take ah)).map Ce.i)) ⟨J.az _,by simpa[cL]using gZ.nil z z aA 1⟩ ?_
  rintro ah s' m5 aT μ hk ⟨v,o5⟩ aQ
  have aP:=y.trans v
  refine dit (λt=>?_) λt=>?_
  .let⟨S,I⟩:=cG (x.args.drop 1) ah
   have K:=C.arg S (xc (aq I))
   have M:=H.ext aP
   refine⟨V,V,S,by simpa using(al.ext v).aH I,g,M.g3,K.1,V,_,M.ak.pM K.1 K.2,?_⟩
   intro m6
   refine nZ o5 v (by simp[cL];omega) λag m7 q1 P=>⟨J.tL (v.aJ _) P F,aQ V _ _ ⟨P,?_⟩⟩
   rw[aU I]
   simpa[cL]using q1
  .rw[bY V]at o5
   have i5:ap m5 s' (cL f (x.args.drop 1)):=ap.gE o5 (by simp[cL];omega)
   refine(Et (ae.ext (aa.trans v)) (oh ai.fl)).aG (PA (od (aM s.heap w).aF) ai.fl) (λB T=>v.lt (F B T)) λps m6 o6 i6 ac=>⟨ps,rfl,?_⟩
   have ab:=v.trans ac
   refine(CK i6 (i5.ext ac)).aG ab F λb2 m7 U aW S=>⟨b2,rfl,λh8=>bV (λu=>nb U h8 (u.2.2.2 R).2.1) (y.trans S),λh8=>?_⟩
   have ak:=yb U h8
   have P:=y.trans S
   have ao:aN cq 171 [vp i 0,.agg #[vi (aM s.heap w).aP,vi (aM s.heap w).km,O.v Y]] m7 λaR am=>eG [E.size,b.size] m7 am/\∃an:Bool,aR=vb an/\((an=true<->((aM s.heap w).aP=1\/lp s.heap (aM s.heap w).aF))/\J b am):=
    (wo (P.af A.rC) (cW.ext P A.heap) hI (aq W) (ae.ext (aa.trans S)) aJ).aG S F λb3 m8 M aX aB=>⟨b3,rfl,M,y.trans aB⟩
   have F7:=H.ext P
   have az:aH x.args 0<f.ba.length:=V
   refine⟨λI=>⟨h,F7.g5,V,V,_,(L.ext P).pM V V,D.1,V,_,F7.ba.pM D.1 az,λK=>bV (λu=>?_) P,λK=>ao.mono ?_⟩,λI=>ao.mono ?_⟩
   .simp at I K;exact K ((u.2.2.2 R).2.2.2 I)
   .rintro _ m8 ⟨hs,b3,rfl,M,ag⟩
    refine⟨hs,b3,rfl,eV (M.trans ?_) ag⟩
    simp at K
    exact⟨λhf=>⟨λq=>V,λq=>V,λq=>V,λ_=>⟨G,ak,hf,λ_=>K⟩⟩,λu=>(u.2.2.2 R).2.2.1⟩
   .rintro _ m8 ⟨hs,b3,rfl,M,ag⟩
    refine⟨hs,b3,rfl,eV (M.trans ?_) ag⟩
    simp at I
    exact⟨λhf=>⟨λq=>V,λq=>V,λq=>V,λ_=>⟨G,ak,hf,λq=>absurd q I⟩⟩,λu=>(u.2.2.2 R).2.2.1⟩
end
section
variable{b:E}{c:Nat}{a:aY}{d e h:O}
def vn(ak:List Int):∀(b a aR:List Int),bE ak aR (b++a)=bE ak (bE ak aR b) a
 |[],a,aR=>rfl
 |y::b,a,aR=>by simp only[cZ,bE,vn ak b a]
def Nb{f fb:Nat}(i:af b f 0=some (vp fb c))(F:FP b fb c a d e h){x:Int}(g:0<=x/\x<a.ak.length):dt cq 98 [vi x,vp f 0] b (1000<=aH a.ak x):=by
 apply vx (f,0);have j:=F.ak.len;exact⟨(fb,c),i,d,F.g3,g.1,V,_,F.ak.pM g.1 g.2,eV aL (J.az _)⟩
def Qa{mb fb:Nat}{a4 bp aS u fr:O}{g:cR}{N:St}(R:RV b mb 3 a4 bp aS u fr g N)(bb:af b mb 2=some (vi (bW g))){fs:List aY}{x:Instr}(C:zR g N fs a x){au bm:O}(Q:FP b fb c a d e h)(Z:ap b au x.args)(a1:N.heap.length<=2000000000):
 dt cq 59 [vp mb 0,vp fb c,xv x au bm] b (lx g N a x (bE a.ak a.aR (bU g x))):=by
 apply xz (mb,0) (fb,c)
 simp -zeta only[aD,aC]
 intro m1 L
 have w:J b L:=((J.az b).aJ _).aJ _
 have s1:m1.size=b.size+1:=by simp[m1]
 have s2:L.size=b.size+2:=by simp[L,s1]
 have P:∀j∈[m1.size,b.size],j<L.size:=bF
 have kP:af L b.size 0=some (vp fb c):=((cz.push b [.p fb c] _).ext (J.push m1 _)).cg 0
 clear_value L
 have bu:=Z.len
 have bK:=Q.ak.len
 have bG:=Q.aR.len
 have bw:=Q.ba.len
 have bA:=C.Gy
 have hd:=C.dst
 have bi:=C.ZD
 refine⟨e,w.af Q.g4,(eO (Q.aR.ext w) V).aG V P λB m3 oq iq aG=>⟨B,rfl,?_⟩⟩
 have ay:=iq.len
 have aN:=w.trans aG
 refine(wg (R.fm.ext aN) (aN.af R.cF) C.call (Z.ext aN) (oh C.lz.1) C.lz.2.2.2.1).aG aG P ?_
 rintro _ U ⟨rs,ls,rfl,aB,aO,aJ,a3,a2⟩
 have a8:=aG.trans aJ
 have bo:=oq.ext aJ
 refine⟨aJ,rs,ls,rfl,?_⟩
 have bM:=Jo g x
 have bt:=C.lz.1
 have bL:=aB.len
 have a_:=C.KK
 have bj:∀ac∈a.aR,0<=ac:=λac T=>(C.O9 ac T).1
 have bI:L.size<=B.D:=by
  rcases oq.D with k|k
  .subst k;simp at ay;omega
  .exact k
 have bJ:B.D<m3.size:=by
  rcases oq.lt with k|k
  .subst k;simp at ay;omega
  .exact k
 have aK:=C.arg
 have bD:=w.size
 have kr:∀{v:E},(∀j,j<U.size->j≠B.D->v[j]? =U[j]?)->ap v rs (bU g x):=λhk=>iU aB λG=>hk _ (iJ aB G) λk=>by
  have ba:x.args≠[]:=λS=>by
   let⟨y,s⟩:=UT _ G;have:=Cw s;rw[S]at this;simp at this
  rcases a3 with W|W|W
  .subst W;have:=aB.len;simp at this;exact G (List.length_eq_zero_iff.1 this.symm)
  .rw[W]at k;have:=iJ Z ba;omega
  .omega
 have kl:∀{v:E},(∀j,j<U.size->j≠B.D->v[j]? =U[j]?)->ap v ls (if x.op=9\/x.op=24 then fK g x 0 x.args else[]):=λhk=>iU aO λG=>hk _ (iJ aO G) λk=>by
  rcases a2 with W|W
  .subst W;have:=aO.len;simp at this;exact G (List.length_eq_zero_iff.1 this.symm)
  .omega
 refine dV (n:=(bU g x).length) V (λp v=>J L v/\(∀j,j<U.size->j≠B.D->v[j]? =U[j]?)/\gZ L v aA 1 B ((bE a.ak a.aR ((bU g x).take p)).map Ce.i)/\∀ac∈bE a.ak a.aR ((bU g x).take p),0<=ac) ⟨a8,λ_ _ _=>rfl,bo,bj⟩ ?_
 rintro p m5 bq μ hk ⟨ad,al,aE,K⟩ aV
 have F5:=Q.ext (w.trans ad)
 have bc:=kd a.ak ((bU g x).take p) a.aR
 have az:ap m5 B (bE a.ak a.aR ((bU g x).take p)):=ap.gE aE V
 refine dit (λh6=>?_) λh6=>?_
 .let⟨y,s⟩:=cG (bU g x) p
  have q:=a_ y (aq s)
  have D:bE a.ak a.aR ((bU g x).take (p+1))=if 1000<=aH a.ak y then gV (bE a.ak a.aR ((bU g x).take p)) y (aH (bE a.ak a.aR ((bU g x).take p)) y -1)else bE a.ak a.aR ((bU g x).take p):=by
   rw[aU s,vn];rfl
  have H:y<(bE a.ak a.aR ((bU g x).take p)).length:=V
  have aW:=K _ (fA q.1 H)
  have aX:aH (bE a.ak a.aR ((bU g x).take p)) y<=999999:=by
   let⟨q',M,ak⟩:=k8 ((bU g x).take p) a.aR y.toNat _ (oO q.1 H);have:=(C.O9 q' (aq M)).2;omega
  refine⟨V,V,y,by simpa using(kr al).aH s,d,F5.g3,q.1,V,_,F5.ak.pM q.1 q.2,λA=>?_,λA=>aV V _ ⟨ad,al,by rw[D,ae (by simpa using A)];exact aE,by rw[D,ae (by simpa using A)];exact K⟩⟩
  simp at A
  rw[an A]at D
  refine⟨q.1,V,_,az.pM q.1 H,q.1,V,?_⟩
  have e1:cQ (aH (bE a.ak a.aR ((bU g x).take p)) y -1)=aH (bE a.ak a.aR ((bU g x).take p)) y -1:=aQ V V
  rw[e1]
  rcases aE.aH with aF|⟨X,am,tail,z1,z2,z3,z4,z5⟩
  .rw[aF]at ay;simp at ay;omega
  .have a5:B.off=0:=by rw[z1];rfl
   have aa:B.D=X:=by rw[z1];rfl
   have ah:B.off+y.toNat*1=y.toNat:=V
   rw[ah,aa]
   have ax:y.toNat<((bE a.ak a.aR ((bU g x).take p)).map Ce.i).length:=bF
   refine⟨z3.fN (by simp only[be];omega),?_⟩
   intro m6
   have F:J L m6:=ad.ah V _ _
   have ao:∀j,j<U.size->j≠B.D->m6[j]? =U[j]? :=λj t G=>by rw[bd _ _ _ _ V];exact al j t G
   have o6:gZ L m6 aA 1 B ((bE a.ak a.aR ((bU g x).take (p+1))).map Ce.i):=by
    rw[D];refine⟨by rw[dZ,jV,<-dZ (f:=Ce.i)];exact aE.len,Or.inr ⟨X,am,tail,z1,z2,?_,?_,z5⟩⟩
    .have:=cz.ah (m:=m5) (o:=y.toNat) (r:=[.i (aH (bE a.ak a.aR ((bU g x).take p)) y -1)]) z3;have e6:jf ((bE a.ak a.aR ((bU g x).take p)).map Ce.i++tail) y.toNat [.i (aH (bE a.ak a.aR ((bU g x).take p)) y -1)]=(gV (bE a.ak a.aR ((bU g x).take p)) y (aH (bE a.ak a.aR ((bU g x).take p)) y -1)).map Ce.i++tail:=by
      simp only[jf,gV,uo];rw[MK _ _ ax]
     rw[e6]at this;exact this
    .simp only[be,dZ,jV]at z4⊢;exact z4
   have a0:=kd a.ak ((bU g x).take (p+1)) a.aR
   have aT:ap m6 B (bE a.ak a.aR ((bU g x).take (p+1))):=ap.gE o6 V
   have Y:aH (bE a.ak a.aR ((bU g x).take (p+1))) y=aH (bE a.ak a.aR ((bU g x).take p)) y -1:=by rw[D,U6 q.1 H y q.1,an rfl]
   have ag:=aT.pM (i:=y) q.1 V
   rw[Y,ah,aa]at ag
   refine⟨J.tL ad F P,q.1,V,_,ag,λh8=>bV (λz=>?_) (w.trans F),λh8=>aV V _ ⟨F,ao,o6,λac T=>?_⟩⟩
   .simp at h8
    have ab:bE a.ak a.aR (bU g x)=bE a.ak (bE a.ak a.aR ((bU g x).take (p+1))) ((bU g x).drop (p+1)):=by rw[<-vn,dk]
    have av:y<(bE a.ak a.aR (bU g x)).length:=by rw[kd];omega
    have I:=oO (l:=bE a.ak a.aR (bU g x)) q.1 av
    have aZ:=z.nn _ (aq I)
    rw[ab]at I
    let⟨q',M,ak⟩:=k8 _ _ _ _ I
    have aP:=HW M
    rw[Y]at aP
    rw[<-ab]at ak
    omega
   .rw[D]at T
    rcases pS T with T|T
    .simp at h8;omega
    .exact K ac T
 .have bk:(bU g x).take p=bU g x:=bY V
  rw[bk]at az K bc
  have aP:=kl al
  generalize bH:bE a.ak a.aR (bU g x)=aR at*
  have bf:=aP.len
  refine⟨λv=>J m5 v/\(lS x.op->aH aR x.dst<=0),?_,?_⟩
  .refine(rG _ _ ⟨V,V⟩).aG ad P λj m6 t ag F=>⟨j,rfl,λH=>⟨hd.1,V,_,(az.ext ag).pM hd.1 V,λA=>bV (λz=>?_) (w.trans F),λA=>⟨ag,λ_=>by simpa using A⟩⟩,λD=>⟨ag,λI=>absurd I (Go.Vc.fb t D)⟩⟩
   have:=z.dst (t.1 H);simp at A;omega
  .rintro m6 ⟨ag,aa⟩
   have bn:∀(ao:List Int)(jj:Nat)(y:Int),y∈fK g x jj ao->y∈ao:=by
    intro ao;induction ao with
    |nil=>intro jj y h;simp[fK]at h
    |cons D ao A=>
     intro jj y h;simp only[fK]at h;split at h
     .rcases List.mem_cons.1 h with rfl|h
      .exact bg
      .exact ai _ (A _ _ h)
     .exact ai _ (A _ _ h)
   generalize ax:(if x.op=9\/x.op=24 then fK g x 0 x.args else[])=LL at*
   have a9:∀y∈LL,0<=y/\y<a.ak.length:=λy s=>by
    rw[<-ax]at s;split at s
    .exact aK y (bn _ _ _ s)
    .simp at s
   refine dV (n:=LL.length) (bf▸aP.gX) (λp v=>J m5 v/\∀y∈LL.take p,1000<=aH a.ak y->gB N.heap (aH a.ak y)) ⟨ag,aL⟩ ?_
   rintro k2 m7 I2 μ2 bz ⟨ah,am⟩ aT
   have Y:=ad.trans ah
   have A:=w.trans Y
   have H:=Q.ext A
   refine dit (λh8=>?_) λh8=>?_
   .let⟨y,s⟩:=cG LL k2
    have q:=a9 y (aq s)
    refine⟨V,V,y,by simpa using(aP.ext ah).aH s,d,H.g3,q.1,V,_,H.ak.pM q.1 q.2,λF=>?_,λF=>aT V _ ⟨ah,bC s am λu=>by simp at F;omega⟩⟩
    simp at F
    refine(Lz (A.af R.rC) (cW.ext A R.heap) (C.F.pW q.1 q.2 C.MV).2).aG Y P λj m8 t ak I=>⟨j,rfl,λD=>bV (λz=>?_) (w.trans I),λD=>aT V _ ⟨ah.trans ak,bC s am λ_=>yb t D⟩⟩
    have M:=aq s
    rw[<-ax]at M
    split at M
    .rename_i e9;exact nb t D (z.cT e9 y M F)
    .simp at M
   .rw[bY V]at am
    have ab:(x.op=9\/x.op=24)->KR g N.heap a x:=λe9=>by rw[an e9]at ax;rw[<-ax]at am;exact am
    have bl:=az.ext ah
    have hV:=R.ext A
    have aW:1<=x.args.length->0<=aH x.args 0/\aH x.args 0<a.ak.length:=λX=>aK _ (fA V V)
    have ga:∀{v},J b v->1<=x.args.length->af v au.D (au.off+Int.toNat (0:Int)*1)=some (vi (aH x.args 0)):=λhx X=>(Z.ext hx).pM V V
    clear aV aT al kr kl bi a3 a2
    refine⟨λk=>?_,λe1=>?_⟩
    .simp only[bR,aI]at k
     refine(iZ (Z.ext A) 98 #[] #[vp b.size 0] bh (λy=>1000<=aH a.ak y) (λy s v av=>?_)).aG Y (λj t=>P j (by simp at t;simp[t])) λj m8 t ak I=>⟨j,rfl,eV ?_ (w.trans I)⟩
     .simpa using Nb (av.af (Y.af kP)) (H.ext av) (aK y s)
     .have aF:(!j)=true<->¬(j=true):=aL
      rw[aF,t]
      constructor
      .intro aX
       have u:∀y∈x.args,aH a.ak y<1000:=λy s=>by
        rcases dR (1000<=aH a.ak y)with X|X
        .exact absurd ⟨y,s,X⟩ aX
        .omega
       have M:x.op≠6/\x.op≠24/\x.op≠23/\x.op≠11/\x.op≠14/\x.op≠15/\x.op≠16/\x.op≠17/\x.op≠19/\x.op≠21:=by rcases k with k|k|k|k|k|k<;>rw[k]<;>decide
       exact⟨K,aa,λ_=>u,λq=>absurd q M.1,ab,λq=>q.elim (λh=>absurd h M.2.1) (λh=>absurd h M.2.2.1),λq=>absurd q M.2.2.1,λq=>absurd q M.2.2.2.1,λq=>absurd q M.2.2.2.2.1,λq=>absurd q M.2.2.2.2.2.1,λq=>q.elim (λh=>absurd h M.2.2.2.2.2.2.1) (λh=>absurd h M.2.2.2.2.2.2.2.1),λq=>absurd q M.2.2.2.2.2.2.2.2.1,λq=>absurd q M.2.2.2.2.2.2.2.2.2⟩
      .rintro z ⟨y,s,X⟩
       have:=z.nV V y s;omega
    simp only[br,aj]at e1
    refine⟨λk=>?_,λe6=>?_⟩
    .simp only[aI]at k
     have bx:=C.lz.2.2.2.2.1 k
     have iI:FO N.heap a x->lx g N a x aR:=λu=>by
      refine⟨K,aa,?_,?_,ab,?_,?_,?_,?_,?_,?_,?_,?_⟩<;>intro q<;>first|(exfalso;omega)|exact u
     refine⟨λF=>?_,λF=>iS (iI λG=>absurd (by simpa using F) G) A⟩
     simp at F
     have aZ:cQ (x.cp -1)=x.cp -1:=aQ V V
     rw[aZ]
     have M:0<=x.cp -1/\x.cp -1<a.ba.length:=V
     refine⟨h,H.g5,V,V,_,H.ba.pM M.1 M.2,λD=>?_,λD=>iS (iI λ_ G=>absurd (by simpa using D) G) A⟩
     simp at D
     obtain⟨T,dd,aF,_⟩:=C.LD _ (fA M.1 M.2) D
     have bB:=aw aF
     have a6:ix (aH a.ba (x.cp -1))=(aH a.ba (x.cp -1) -1000).toNat:=rfl
     have a0:cQ (aH a.ba (x.cp -1) -1000)=aH a.ba (x.cp -1) -1000:=aQ V V
     have bv:=R.heap.len
     let⟨f9,a5,k0,k1,a7⟩:=(cW.ext A R.heap).aH aF
     have bs:=a5.len
     have aX:aM N.heap (aH a.ba (x.cp -1))=dd:=by simp[aM,aF]
     refine⟨u,hV.rC,h,H.g5,V,V,_,H.ba.pM M.1 M.2,?_⟩
     rw[a0,<-a6]
     refine⟨V,V,f9,a7,eV ?_ A⟩
     simp only[aI]
     refine⟨λav=>iI λ_ _=>by rw[aX];omega,λz=>?_⟩
     have:=z.ji k F D
     rw[aX]at this;omega
    simp only[aj]at e6
    refine⟨λk=>?_,λa6=>?_⟩
    .simp only[bR,aI]at k
     refine(yx bl).aG Y P λj m8 t ak I=>⟨j,rfl,λF=>bV (λz=>nb t F (z.zero k).1) (w.trans I),λF=>?_⟩
     have F8:=Q.ext (w.trans I)
     refine⟨h,F8.g5,(yx F8.ba).aG I P λb2 m9 a0 bs aZ=>⟨b2,rfl,λD=>bV (λz=>nb a0 D (z.zero k).2) (w.trans aZ),λD=>?_⟩⟩
     have M:=w.trans aZ
     have F9:=Q.ext M
     have iI:(x.op=23->1<N.ao.length\/aH a.ak (aH x.args 0)<1000)->lx g N a x aR:=λu=>by
      refine⟨K,aa,?_,?_,ab,?_,?_,?_,?_,?_,?_,?_,?_⟩<;>intro q<;>first|exact u q|(exfalso;omega)|exact⟨(yb t F),(yb a0 D)⟩
     have bv:=R.ao.len
     refine⟨λav=>iS (iI λq=>by simp at av;omega) M,λav=>⟨fr,M.af R.OV,λaF=>iS (iI λ_=>Or.inl (by simp at aF;omega)) M,λaF=>?_⟩⟩
     simp at av aF
     have a5:x.op=23:=V
     have X:=C.lz.2.1 V
     have S:=aW V
     refine⟨d,F9.g3,V,V,_,ga M V,S.1,V,_,F9.ak.pM S.1 S.2,eV ?_ M⟩
     simp
     refine⟨λa7=>iI λ_=>Or.inr a7,λz=>?_⟩
     rcases z.ret a5 with aX|aX
     .omega
     .exact aX
    simp only[br,aj]at a6
    refine⟨λk=>?_,λz=>?_⟩
    .simp only[aI]at k
     refine(Ig hV (A.af bb) C H (Z.ext A) k a1).aG Y P λj m8 t ak I=>⟨j,rfl,eV (t.trans ?_) (w.trans I)⟩
     refine⟨λu=>?_,λh=>h.apply k⟩
     refine⟨K,aa,?_,?_,ab,?_,?_,?_,?_,?_,?_,?_,?_⟩<;>intro q<;>first|(exfalso;omega)|exact u
    simp only[aj]at z
    refine⟨λk=>?_,λF=>?_⟩
    .simp only[aI]at k
     have X:=C.lz.2.1 V
     have S:=aW V
     refine⟨d,H.g3,V,V,_,ga A V,S.1,V,_,H.ak.pM S.1 S.2,eV ?_ A⟩
     simp only[oJ,ar]
     refine⟨λu=>?_,λh=>h.drop k⟩
     refine⟨K,aa,?_,?_,ab,?_,?_,?_,?_,?_,?_,?_,?_⟩<;>intro q<;>first|(exfalso;omega)|exact u
    simp only[aj]at F
    refine⟨λk=>?_,λD=>?_⟩
    .simp only[bR,aI]at k
     refine(Es hV C H (Z.ext A) V a1).aG Y P λj m8 t ak I=>⟨j,rfl,eV (t.trans ?_) (w.trans I)⟩
     refine⟨λu=>?_,λh=>⟨h.Xm,h.load,h.FC,h.N4⟩⟩
     refine⟨K,aa,?_,?_,ab,?_,?_,?_,u.1,?_,u.2.2.2,u.2.1,u.2.2.1⟩<;>intro q<;>exfalso<;>omega
    .simp only[br,aj]at D
     refine iS ?_ A
     refine⟨K,aa,?_,?_,ab,?_,?_,?_,?_,?_,?_,?_,?_⟩<;>intro q<;>exfalso<;>omega
end
section
variable{N c:Nat}{b:Nat->Nat}{a:E}{h:List bN}
def na(w:Int)(a:E):FI cq 109 [vi w] a (vi (gL w)):=by
 apply wq;unfold gL;exact⟨λh=>by simp at h;rw[an h];exact⟨rfl,J.az _⟩,λh=>by simp at h;rw[ae V];exact⟨rfl,J.az _⟩⟩
def uT{d:O}(s:dL N b a d h)(A:∀e,a.size<=e->b e=0)(kb:cz a c eC [.s d])(C:b c=5)(H:h.length<=2000000000):
 aN cq 176 [vp c 0] a λ_ g=>dL N b g (d.cut 0 (js h h.length) 3) (nC h)/\cz g c eC [.s (d.cut 0 (js h h.length) 3)]/\HC b a b g:=by
 apply Ap (c,0)
 have G:=s.len
 have t:=s.cells V
 have E:=t.cap
 have j:af a c 0=some (O.v d):=kb.cg 0
 refine⟨d,j,λl g=>g=a/\∃n:Nat,l=n/\n<=h.length/\js h n=js h h.length,λl _=>l.toNat,⟨rfl,h.length,V,ad _,rfl⟩,?_⟩
 rintro l e ⟨rfl,n,rfl,B,u⟩
 have x:Int.toNat (0:Int)=0:=rfl
 have en:Int.toNat (n:Int)=n:=V
 have iI:js h n=n->dL N b (ah e c 0 [.s (d.cut 0 n 3)]) (d.cut 0 (js h h.length) 3) (nC h)/\cz (ah e c 0 [.s (d.cut 0 n 3)]) c eC [.s (d.cut 0 (js h h.length) 3)]/\HC b e b (ah e c 0 [.s (d.cut 0 n 3)]):=λw=>by
  have f:dm (λk=>k=5) b e b (ah e c 0 [.s (d.cut 0 n 3)]):=dm.ah A C _ _;have i:js h h.length=n:=by rw[<-u,w]
  rw[i];refine⟨?_,cz.ah (m:=e) (o:=0) (r:=[.s (d.cut 0 n 3)]) kb,f.mono λk z=>Or.inr (Or.inl z)⟩;have:=(s.eH f bh bh).cut B;unfold nC;rw[i];exact this
 refine⟨λp=>?_,λp=>?_⟩
 .simp only[kJ,ar]at p
  obtain⟨k,rfl⟩:∃k,n=k+1:=⟨n -1,V⟩
  have i:cQ (((k+1:Nat):Int) -1)=(k:Int):=by rw[aQ V V];omega
  let⟨v,f⟩:=cG h k
  obtain⟨D,F,y,_⟩:=t.aH f
  refine⟨d,j,?_⟩
  rw[i]
  refine⟨V,V,v.aP,by simpa using y,λq=>⟨⟨rfl,k,rfl,V,?_⟩,by show(k:Int).toNat<((k+1:Nat):Int).toNat;omega⟩,λq=>⟨d,j,V,V,V,kb.fN aL,?_⟩⟩
  .rw[<-u,Qz f (by simpa using q)]
  .rw[x,en];exact iI (MG f (by simpa using q))
 .simp only[kJ,bG]at p
  have q:n=0:=V
  subst q
  exact⟨d,j,V,V,V,kb.fN aL,iI rfl⟩
def Gm{e:O}(hh:dL N b a e h)(hn:∀g,a.size<=g->b g=0)(kb:cz a c eC [.s e])(hr:b c=5){v:Int}{W:Nat->Int}(hI:fP h (λg=>W g+eB [v] g))(he:∀g,0<=W g)(a5:h.length<=2000000000):
 aN cq 107 [vp c 0,vi v] a λ_ q=>∃u av,dL N u q av (nC (ig h [v]))/\cz q c eC [.s av]/\HC b a u q:=by
 apply Ao (c,0)
 intro r
 have X:J a r:=(J.az a).aJ _
 have s1:r.size=a.size+1:=by simp[r]
 have o1:gZ a r aA 1 (.mk a.size 0 1 1) ([v].map Ce.i):=gZ.new (J.az a) aA 1 _ 1 aL
 have c1:HC b a (nE b a.size 6) r:=dm.nE X hn (ad _) V 6
 have a1:iL (nE b a.size 6) r aA 1 6 (.mk a.size 0 1 1) ([v].map Ce.i):=iL.gE o1 λ_=>fg _ _ _
 have aK:dL N (nE b a.size 6) r e h:=hh.eH (dm.nE (p:=λ_=>False) X hn (ad _) V 6) id id
 have aT:=kb.ext X
 have aO:nE b a.size 6 c=5:=by rw[eJ (oh kb.lt)];exact hr
 clear_value r
 have aX:=OW λaE d=>(hI.cell aE d).fl
 have aY:=hh.len
 refine Pu (γ:=List bN×List Int) (λi G q=>∃u,dL N u q e i.1/\iL u q aA 1 6 G (i.2.reverse.map Ce.i)/\HC b a u q/\fP i.1 (λg=>W g+eB i.2 g)/\ig i.1 i.2=ig h [v]/\i.1.length=h.length/\i.2.length+CC i.1<=1+CC h/\cz q c eC [.s e]/\u c=5) (λi=>CA i.1+i.2.length) (h,[v])
  ⟨_,aK,a1,c1,hI,rfl,rfl,aL,aT,aO⟩ ?_
 rintro⟨d,st⟩ G m2 aU μ ⟨m,B,a2,i,t,y,K,ak,P,z⟩ ae
 simp only[]at B a2 t y K ak
 have az:G.len=st.length:=by have:=a2.len;simp at this;omega
 refine⟨λY=>?_,λY=>?_⟩
 .simp only[kJ,ar]at Y
  cases st with
  |nil=>simp at az;omega
  |cons x s=>
   simp only[QJ]at a2
   let⟨p1,p2,p3⟩:=a2.Vw
   simp only[aZ,mT]at az p1 p2 p3 ak
   have e1:cQ ((G.len:Int) -1)=(s.length:Int):=by rw[aQ V V];omega
   have aV:=a2.le
   have e2:Int.toNat (0:Int)=0:=rfl
   have e3:Int.toNat (s.length:Int)=s.length:=V
   have aB:1000<=x->gB d x:=λM=>t.PW he M
   have aS:x<=9223372036854775807:=by
    rcases dR (1000<=x)with k|k
    .have:=aw (bS (aB k)).1;unfold ix at this;omega
    .omega
   refine⟨e,P.cg 0,?_⟩
   rw[e1,e2,e3]
   refine⟨V,V,x,p2,(iv (B.cells V) aS).mono ?_⟩
   rintro _ Q ⟨aD,g,rfl,ah,aH,n⟩
   refine⟨aD,g,rfl,V,V,V,λaJ=>?_,λai=>?_⟩
   .have M:=nb ah aJ
    have H:HC m m2 m Q:=dm.eD _ n i.new
    refine ae (d,s) _ _ ⟨m,B.eH (dm.eD (λ_=>False) n i.new) id id,p3.eH (dm.eD (λ_=>False) n i.new) id,i.trans H,t.RP ?_,?_,K,by simp only[];omega,P.ext n,z⟩ aL
    .rcases dR (1000<=x)with k|k
     .exact absurd (aB k) M
     .omega
    .rw[<-qG (w:=x) M];exact y
   .have E:=yb ah ai
    have aG:=aH (by simpa using ai)
    subst aG
    let⟨j,ax⟩:=bS E
    have ao:=aw j
    have a0:=(t.cell _ (aq j)).hi
    have aF:Int.toNat ((ix x:Nat):Int)=ix x:=V
    have H:HC m m2 m Q:=dm.eD _ n i.new
    have C:dL N m Q e d:=B.eH (dm.eD (λ_=>False) n i.new) id id
    have a3:=p3.eH (dm.eD (λ_=>False) n i.new) id
    have F:=P.ext n
    obtain⟨f0,g0,_,_,_,_⟩:=C.cg j
    refine⟨e,F.cg 0,?_⟩
    rw[aF]
    refine⟨V,V,_,g0,V,V,C.wr (o:=0) ao bh,?_⟩
    have e5:cQ ((aM d x).aP -1)=(aM d x).aP -1:=aQ V V
    rw[e5]
    intro m4
    let⟨ab,T⟩:=C.rJ H.new j ((aM d x).aP -1)
    have a4:=a3.eH T bh
    have A:cz m4 c eC [.s e]:=F.congr (T.eA _ F.lt (by rw[z];decide))
    have S:HC b a m m4:=(i.trans H).trans (T.mono λaC D=>Or.inl D)
    have Z:=kC (d:=je) j
    simp only[an ax,je]at Z
    simp at Z
    have aR:(d.set (ix x) {aM d x with aP:=(aM d x).aP -1})[ix x]? =some {aM d x with aP:=(aM d x).aP -1}:=eK j
    obtain⟨f1,k0,_,k2,kf,kr⟩:=ab.cg aR
    refine⟨e,A.cg 0,V,V,_,k0,λk=>?_,λk=>?_⟩
    .simp only[aI]at k
     have au:(aM d x).aP=1:=V
     have aW:=(t.cell _ (aq j)).fl
     have aa:=kf.len
     simp only[]at aa kf kr
     have I:=Ai je j
     simp only[je,eW]at I
     refine⟨e,A.cg 0,V,V,f1,k2,iL.append (zs:=[.i 0]) (c:=(aM d x).aF.map Ce.i) a4 S.new (by simp[aa]) kf.Ix ?_ λaf a6 m5 q1 R=>?_⟩
     .have:(G.cut 0 s.length 1).len=s.length:=by have:=a4.len;simp at this;omega
      rw[this,aa];omega
     have al:=ab.eH R bh bh
     have ag:HC b a af m5:=S.trans (R.mono λaC D=>Or.inr (Or.inr D))
     have ac:cz m5 c eC [.s e]:=A.congr (R.eA _ A.lt (by rw[z];decide))
     have ay:af c=5:=by rw[R.gN _ A.lt];exact z
     have ap:ix x<(d.set (ix x) {aM d x with aP:=(aM d x).aP -1}).length:=by simpa using ao
     refine⟨e,ac.cg 0,V,V,al.wr (o:=0) ap bh,?_⟩
     intro m7
     let⟨am,U⟩:=al.setCell ag.new ap 0 0 (f:=.nil) (l:=[]) ⟨rfl,aL,aL,aL⟩ (λL=>absurd rfl L)
     rw[XI]at am
     refine ae (d.set (ix x) je,(aM d x).aF.reverse++s) _ _ ⟨af,am,?_,ag.trans (U.mono λaC D=>Or.inl D),t.RQ he E au,?_,by simpa using K,?_,ac.congr (U.eA _ ac.lt (by rw[ay];decide)),ay⟩ ?_
     .have:=q1.eH U bh
      simpa using this
     .rw[<-tj E au];exact y
     .simp only[be,mT]
      have D:CC (d.set (ix x) je)+(aM d x).aF.length=CC d:=by simpa[je]using I
      omega
     .simp only[be,mT,aZ]
      have D:CA (d.set (ix x) je)+((aM d x).aP.toNat+(aM d x).aF.length)=CA d:=by simpa[je]using Z
      omega
    .simp only[aj]at k
     have L:(aM d x).aP≠1:=V
     have D:=kC (d:={aM d x with aP:=(aM d x).aP -1}) j
     simp only[an ax]at D
     rw[an V]at D
     have I:=Ai {aM d x with aP:=(aM d x).aP -1} j
     refine ae (ft d x,s) _ _ ⟨m,ab,a4,S,t.PX he E L,?_,by simpa[ft]using K,?_,A,z⟩ ?_
     .rw[<-qF E L];exact y
     .simp only[ft];simp only[]at I;omega
     .simp only[ft,aZ];omega
 .simp only[kJ,bG]at Y
  have j:st=[]:=List.length_eq_zero_iff.1 V
  subst j
  rw[th]at y
  subst y
  refine(uT B i.new P z V).mono ?_
  rintro _ Q ⟨C,F,g⟩
  exact⟨m,_,C,F,i.trans g⟩
def P4{i:O}(f:cW a i h):aN cq 216 [O.v i,.func (.func 217) #[] #[]] a λB j=>∃r:Int,B=vi r/\J a j/\(if dG h=h.length then r= -1 else r=dG h):=by
 apply lZ i (.func 217,#[],#[]);have y:=f.len;refine dV (n:=h.length) (y▸f.gX) (λk j=>J a j/\∀b∈h.take k,b.aP≠0) ⟨J.az _,aL⟩ ?_;rintro k o I μ x ⟨e,g⟩ A
 refine dit (λs=>?_) λs=>?_
 .let⟨b,d⟩:=cG h k;let⟨l,C,q,g1,g2⟩:=(cW.ext e f).aH d;refine⟨V,V,b.aP,by simpa using q,_,by simpa using g1,l,by simpa using g2,217,rfl,bh,?_⟩;have v:dt cq 217 [.agg #[vi b.aP,vi b.km,O.v l]] o (b.aP=0):=by
   apply wh;simp -zeta only[aD,aC];intro z;exact eV aL ((J.az o).aJ _)
  refine aN.mono v ?_;rintro _ z ⟨p,rfl,c,m⟩;refine⟨p,rfl,λu=>⟨_,rfl,e.trans m,?_⟩,λt=>A V _ ⟨e.trans m,bC d g (fb c t)⟩⟩;have w:=Ia h k b g d (c.1 u);have:=aw d;rw[ae V,w]
 .refine⟨_,rfl,e,?_⟩;have:=Ah h k x g;have:=qI h;rw[an V]
def Ep{e:O}(l:dL N b a e h)(B:∀s,a.size<=s->b s=0)(kb:cz a c eC [.s e])(P:b c=5)(G:Int){Y:O}{E:List Int}(hf:ap a Y E)(aq:h.length<=1000000000)(hl:E.length<=1000000000)(hN:N<=a.size):
 aN cq 175 [vp c 0,vi G,O.v Y] a λak S=>∃i aa,ak=vi (1000+dG h)/\dL N i S aa (ji h (dG h) ⟨1,G,E⟩)/\cz S c eC [.s aa]/\HC b a i S:=by
 apply yW (c,0)
 simp -zeta only[aD,aC]
 refine(eO hf hl).then hl λW y o1 i1 Z=>⟨W,rfl,?_⟩
 intro m2 F
 have z:J y F:=((J.az y).aJ _).ah (ad _) _ _
 have s3:F.size=y.size+1:=by simp[F,m2,av]
 have Q:=Z.trans z
 clear_value F
 have ab:E≠[]->b W.D=0:=λah=>by
  rcases o1.D with j|j
  .subst j;have:=i1.len;simp at this;exact absurd (List.length_eq_zero_iff.1 this.symm) ah
  .exact B _ j
 have L:b y.size=0:=B _ Z.size
 have am:=l.len
 have al:=qI h
 refine⟨e,Q.af (kb.cg 0),(P4 (cW.ext Q (l.cells V))).mono ?_⟩
 rintro _ g ⟨aj,rfl,q,C⟩
 have w:=Q.trans q
 have t:HC b a b g:=dm.eD _ w B
 have M:dL N b g e h:=l.eH (dm.eD (λ_=>False) w B) id id
 have n:=kb.ext w
 have i4:=i1.ext (z.trans q)
 have ao:=q.size
 refine⟨q.dp bF,aj,rfl,λj=>?_,λj=>?_⟩
 .simp at j
  have A:dG h=h.length:=by
   rcases dR (dG h=h.length)with u|u
   .exact u
   .rw[ae u]at C;omega
  refine⟨e,n.cg 0,e,n.cg 0,?_⟩
  intro p
  have k:J g p:=(J.az g).aJ _
  have s5:p.size=g.size+1:=by simp[p]
  have jx:fS p g.size 0 [.i 1,.i G,.s W]:=(cz.push g _ _).iE
  have X:HC b a b p:=t.trans (dm.eD _ k t.new)
  clear_value p
  refine⟨k.da (n.cg 0),dL.push (M.eH (dm.eD (λ_=>False) k t.new) id id) X.new (x:=.mk g.size 0 1 1) rfl jx (i4.ext k) (RF.of l (λK=>(w.trans k).same _ (l.D K).2) (λ_=>o1.ext ((z.trans q).trans k)) ab hN) V λi af T U d=>?_⟩
  have R:=n.ext k
  have ac:cz T c eC [.s e]:=R.congr (d.eA _ R.lt (by rw[P];decide))
  have ai:i c=5:=by rw[d.gN _ R.lt];exact P
  have ag:i y.size=0:=by rw[d.gN _ V];exact L
  refine⟨λs f=>?_,ac.fN aL,?_⟩
  .simp at f;subst f
   exact d.eA _ V (by rw[L];decide)
  intro m7
  have H:dm (λD=>D=5) i T i m7:=dm.ah d.new ai _ _
  have I:cQ (1000+(e.len:Int))=1000+(dG h:Int):=by rw[aQ V V];omega
  rw[I]
  refine⟨λs f=>?_,i,af,rfl,?_,cz.ah (m:=T) (o:=0) (r:=[.s af]) ac,(X.trans (d.mono λD v=>Or.inl v)).trans (H.mono λD v=>Or.inr (Or.inl v))⟩
  .simp at f;subst f
   exact H.eA _ (oh d.size) (by rw[ag];decide)
  .rw[ji,an A];exact U.eH H bh bh
 .simp at j
  have A:dG h≠h.length:=λu=>by rw[an u]at C;omega
  rw[ae A]at C
  subst C
  have k:dG h<h.length:=V
  have H:Int.toNat ((dG h:Nat):Int)=dG h:=V
  have I:cQ (1000+(dG h:Int))=1000+(dG h:Int):=aQ V V
  refine⟨e,n.cg 0,?_⟩
  rw[H,I]
  refine⟨V,V,M.wr (o:=0) k bh,?_⟩
  intro p
  let⟨U,d⟩:=M.setCell t.new k 1 G i4 (RF.of l (λK=>w.same _ (l.D K).2) (λ_=>o1.ext (z.trans q)) ab hN)
  refine⟨λs f=>?_,b,e,rfl,?_,n.congr (d.eA _ n.lt (by rw[P];decide)),t.trans (d.mono λD v=>Or.inl v)⟩
  .simp at f;subst f
   exact d.eA _ V (by rw[L];decide)
  .rw[ji,ae A];exact U
end
section
variable{l:List Int}
def OZ{i a b:Int}(l:gR a)(m:gR b)(o:E):FI cq 174 [vi i,vi a,vi b] o (vi (Pa i a b)):=by
 unfold gR at l m;have s: -2000000<=a*b/\a*b<=2000000:=by
  have c:(a*b).natAbs<=999*999:=by rw[Int.natAbs_mul];exact MM V V
  omega
 have k:∀n:Int,(if(999:Int)<(if(-999:Int)>n then(-999:Int)else n)then(999:Int)else(if(-999:Int)>n then(-999:Int)else n))=FX n:=λn=>by
  unfold FX;repeat' split
  all_goals omega
 have p:cQ (a+b)=a+b:=aQ V V;have q:cQ (a -b)=a -b:=aQ V V;have r:cQ (a*b)=a*b:=aQ V V;apply JZ;rw[p,q,r,k,k,k];unfold Pa;refine⟨λh=>by simp at h;omega,λ_=>⟨λh=>by simp at h;omega,λ_=>⟨λh=>by simp at h;omega,λ_=>⟨λh=>by simp at h;omega,λ_=>⟨λc=>?_,λc=>⟨λd=>?_,λd=>⟨λe=>?_,λe=>⟨λf=>⟨λj=>?_,λj=>?_⟩,λf=>?_⟩⟩⟩⟩⟩⟩⟩⟩
 .simp at c;rw[an c];exact⟨rfl,J.az _⟩
 .simp at c d;rw[ae c,an d];exact⟨rfl,J.az _⟩
 .simp at c d e;rw[ae c,ae d,an e];exact⟨rfl,J.az _⟩
 .simp at c d e f j;have g:i=4/\a<b:=⟨f,j⟩;rw[ae c,ae d,ae e,an g];exact⟨rfl,J.az _⟩
 .simp at c d e f j;have g:¬(i=4/\a<b):=V;rw[ae c,ae d,ae e,ae g];exact⟨rfl,J.az _⟩
 .simp at c d e f;have g:¬(i=4/\a<b):=V;rw[ae c,ae d,ae e,ae g];exact⟨rfl,J.az _⟩
def vy{a:E}{fb e:Nat}{f:aY}{j:O}(w:af a fb (e+3)=some (O.v j))(p:ap a j f.ak){s:O}(q:ap a s l)(A:∀y∈l,0<=y/\y<f.ak.length)(L:l.length<=100000000):
 oL 106 [vp fb e,O.v s] a (cL f l):=by
 apply xw (fb,e)
 have K:=q.len
 have H:=p.len
 have t:Int.toNat (s.len:Int)=l.length:=V
 rw[t]
 refine⟨V,dw _,V,V,?_⟩
 intro d
 have z:J a d:=(J.az a).aJ _
 have C:cz d a.size aA ((dj l.length).map Ce.i):=by rw[<-ui];exact cz.push a _ _
 have M:d.size=a.size+1:=by simp[d]
 clear_value d
 simp only[O.jF,O.nh,O.gJ,bT]
 refine dV (n:=l.length) V (λk b=>J a b/\cz b a.size aA ((cL f (l.take k)++dj (l.length -k)).map Ce.i)) ⟨z,by simpa[cL]using C⟩ ?_
 rintro k D I μ G ⟨b,c⟩ F
 refine dit (λx=>?_) λx=>?_
 .let⟨y,h⟩:=cG l k
  have i:=A y (aq h)
  have v:Int.toNat (k:Int)*1=k:=V
  refine⟨V,V,y,by simpa using b.af (q.aH h),j,b.af w,i.1,V,_,b.af (p.pM i.1 i.2),V,V,?_⟩
  rw[v]
  have g:(cL f (l.take k)).length=k:=by simp[cL];omega
  refine⟨c.fN (by simp[g,kv];omega),?_⟩
  refine F V _ ⟨b.ah (ad _) _ _,?_⟩
  have:=cz.ah (m:=D) (o:=k) (r:=[.i (aH f.ak y)]) c
  have u:jf ((cL f (l.take k)++dj (l.length -k)).map Ce.i) k [.i (aH f.ak y)]=(cL f (l.take (k+1))++dj (l.length -(k+1))).map Ce.i:=by
   have B:dj (l.length -k)=0::dj (l.length -(k+1)):=by
    have:l.length -k=(l.length -(k+1))+1:=V;rw[this];rfl
   rw[B,fx,lG _ _ _ _ (by simp[g])];simp only[dZ,g,QL,cK,jf,iC];rw[aU h];simp[cL]
  rw[u]at this;exact this
 .have g:k=l.length:=V
  subst g
  rw[fy,QL]at c
  simp only[dj,NA,dY]at c
  refine⟨_,rfl,⟨by simp[cL],Or.inr ⟨a.size,l.length,[],rfl,ad _,by rw[dY];exact c,by simp[cL],ad _⟩⟩,b⟩
abbrev IB(d p:O)(c:Int)(s:St)(aS b a:O):List Ce:=[.s d,.s p,.i c,.i s.cB,.i s.value,.i s.bu,.i s.dT,.s aS,.s b,.s a]
def Ef(g:E)(i:Nat->Nat)(m:E)(h:Nat)(f p:O)(e:Int)(s:St)(c:E):Prop:=
 ∃d aS b a,vt g d c h bB (IB f p e s aS b a) aS b a s.aS s.heap s.ao/\To i m d c
def Ef.from{b:E}{g h:Nat->Nat}{m e a:E}{f:Nat}{d p:O}{c:Int}{s:St}(j:Ef b h e f d p c s a)(o:To g m h e):Ef b g m f d p c s a:=
 let⟨q,aS,n,i,k,l⟩:=j
 ⟨q,aS,n,i,k,o.trans l⟩
section
variable{p:E}{c s:Nat->Nat}{m d:E}{q e:Nat}{g:List Ce}{aS j a:O}{n:List Int}{k:List bN}{b:List aY}{f:aY}{r o h:O}{i:List (List Ce)}
def ST.ZZ(S:ST p c m q e g aS j a n k b f r o h i)(l:dm (λ_=>False) c m s d):ST p s d q e g aS j a n k b f r o h i/\To c m s d:=by
 let⟨L,t⟩:=S.cO.gF (l.mono λ_=>False.elim) (S.cO.heap.eH l id id);exact⟨⟨L,S.fX.eH l λ_ _=>id⟩,t⟩
def ST.fp(S:ST p c m q e g aS j a n k b f r o h i)(d:f.ak.length<=1000000/\f.aR.length<=1000000/\f.ba.length<=1000000):FP m a.D (a.off+b.length*6) f r o h:=by
 obtain⟨_,_,_,l,s,t⟩:=S.fX.iE;exact⟨l,s,t,S.AF d.1,S.JK d.2.1,S.Rg d.2.2⟩
def rE(S:ST p c m q e g aS j a n k b f r o h i){s:Int}(l:0<=s)(u:s<f.ak.length)(v:s<f.aR.length)(w aR:Int):
 aN cq 103 [vp a.D (a.off+b.length*6),vi s,vi w,vi aR] m λ_ d=>ST p c d q e g aS j a n k b (f.put s w aR) r o h i/\To c m c d:=by
 apply Aj (a.D,a.off+b.length*6)
 obtain⟨_,_,_,y,z,A⟩:=S.fX.iE
 have C:r.len=f.ak.length:=by have:=S.fX.ak.len;simp at this;omega
 have B:o.len=f.aR.length:=by have:=S.fX.aR.len;simp at this;omega
 let⟨t,t1⟩:=S.AK l u w
 let⟨x,t2⟩:=t.p7 l (by simpa using v) aR
 exact⟨r,y,o,z,l,V,S.fX.ak.Oq l u,l,V,t.fX.aR.Oq l v,x,t1.trans t2⟩
end
section
variable{n:E}{g:Nat->Nat}{a:E}{k:Nat}{d p aS b e:O}{c:Int}{s:St}{j:List aY}{f:aY}{u t h:O}{q:List (List Ce)}
def ST.OY{d:Nat}{c:List Ce}{l:List Int}{i:List bN}(S:ST n g a k d c aS b e l i j f u t h q):
 ST n (nE g a.size 5) (ah (a.push (.cells (bt [.s O.nil]) eC)) a.size 0 [.s b]) k d c aS b e l i j f u t h q/\To g a (nE g a.size 5) (ah (a.push (.cells (bt [.s O.nil]) eC)) a.size 0 [.s b])/\
  cz (ah (a.push (.cells (bt [.s O.nil]) eC)) a.size 0 [.s b]) a.size eC [.s b]:=by
 have v:J a (ah (a.push (.cells (bt [.s O.nil]) eC)) a.size 0 [.s b]):=((J.az a).aJ _).ah (ad _) _ _
 have s:dm (λ_=>False) g a (nE g a.size 5) (ah (a.push (.cells (bt [.s O.nil]) eC)) a.size 0 [.s b]):=dm.nE v S.cO.new (ad _) (by rw[av];simp) 5
 let⟨p,t1⟩:=S.ZZ s
 exact⟨p,t1,cz.ah (m:=a.push (.cells (bt [.s O.nil]) eC)) (o:=0) (r:=[.s b]) (cz.push a _ _)⟩
def DO(S:ST n g a k bB (IB d p c s aS b e) aS b e s.aS s.heap j f u t h q)(r:Int){z:O}(E:ap a z l)(M:l.length<=1000000)(D:s.heap.length<=1000000000):
 aN cq 105 [vp k 0,vi r,O.v z] a λL x=>L=vi (1000+dG s.heap)/\∃y w,ST n y x k bB (IB d p c s aS w e) aS w e s.aS (ji s.heap (dG s.heap) ⟨1,r,l⟩) j f u t h q/\To g a y x:=by
 apply vv (k,0)
 simp -zeta only[aD,aC]
 refine⟨b,S.cO.box.cg 8,?_⟩
 intro N H
 let⟨m,t2,kb⟩:=S.OY
 have F:J a H:=((J.az a).aJ _).ah (ad _) _ _
 refine(Ep m.cO.heap m.cO.new kb (fg _ _ _) r (E.ext F) D V m.cO.cr.size).mono ?_
 rintro _ P ⟨I,o,rfl,C,G,B⟩
 let⟨v,t3⟩:=m.gF B C
 refine⟨_,rfl,o,G.cg 0,v.cO.mz (i:=8) aL,?_⟩
 intro Q
 let⟨A,K⟩:=v.jz 8 [.s o]
 exact⟨rfl,I,o,A,(t2.trans t3).trans K⟩
def Gl(S:ST n g a k bB (IB d p c s aS b e) aS b e s.aS s.heap j f u t h q){x:Instr}{W aw:O}(ha:ap n W x.args)(ah:∀y∈x.args,0<=y/\y<f.ak.length)(aB:x.args.length<=4)
 (aG:f.ak.length=f.aR.length/\f.ba.length=f.aR.length/\f.aR.length<=2000)(aF:0<=x.cp/\x.cp<=f.ba.length)(ak:s.heap.length<=1000000000)(am:∀w∈f.ba,w≠0->1000<=w/\ix w<s.heap.length):
 aN cq 104 [vp k 0,vp e.D (e.off+j.length*6),xv x W aw] a λaz m'=>∃(H:Nat->Nat)(E:O)(m:Nat)(i:aY),az=vi (1000+m)/\ST n H m' k bB (IB d p c s aS E e) aS E e s.aS (ji s.heap m ⟨1,x.bQ,cL f x.args⟩) j i u t h q/\To g a H m'/\
  i.ak=f.ak/\i.aR=f.aR/\i.pc=f.pc/\(∀y,nH s j {f with pc:=y} x x.bQ={s with heap:=ji s.heap m ⟨1,x.bQ,cL f x.args⟩,ao:=j++[aY.put {i with pc:=y+1} x.dst (1000+m) 1]}):=by
 apply se (k,0) (e.D,e.off+j.length*6)
 simp -zeta only[aD,aC]
 intro G
 have au:J a G:=(J.az a).aJ _
 have s1:G.size=a.size+1:=by simp[G]
 let⟨z,t1⟩:=S.ext au
 have T:yN g G [a.size]:=λaA hb=>by simp at hb;subst hb;exact⟨V,S.cO.new _ (ad _)⟩
 clear_value G
 have U:=z.fp ⟨V,V,V⟩
 have aE:h.len=f.ba.length:=by have:=S.fX.ba.len;simp at this;omega
 refine(vy U.g3 U.ak (ha.ext z.cO.cr) ah V).mono ?_
 rintro _ P ⟨C,rfl,R,Z⟩
 let⟨r,t2⟩:=z.ext Z
 have K:=T.to t2
 have aJ:(cL f x.args).length=x.args.length:=by simp[cL]
 have F:ap P C (cL f x.args):=ap.gE R V
 have af:=t1.trans t2
 have none:¬(x.cp≠0/\aH f.ba (x.cp -1)≠0)->aN cq 105 [vp k 0,vi x.bQ,O.v C] P λax N=>eG [a.size] P N/\∃ac:Int,ax=vi ac/\∃(H:Nat->Nat)(E:O)(m:Nat)(i:aY),vi ac=vi (1000+m)/\ST n H N k bB (IB d p c s aS E e) aS E e s.aS (ji s.heap m ⟨1,x.bQ,cL f x.args⟩) j i u t h q/\To g a H N/\
  i.ak=f.ak/\i.aR=f.aR/\i.pc=f.pc/\(∀y,nH s j {f with pc:=y} x x.bQ={s with heap:=ji s.heap m ⟨1,x.bQ,cL f x.args⟩,ao:=j++[aY.put {i with pc:=y+1} x.dst (1000+m) 1]}):=λaq=>by
  refine(DO r x.bQ F V ak).mono ?_
  rintro _ Q ⟨rfl,ay,ar,v,t3⟩
  exact⟨t3.dJ K,_,rfl,ay,ar,dG s.heap,f,rfl,v,af.trans t3,rfl,rfl,rfl,λy=>by rw[nH,ae aq];rfl⟩
 refine⟨t2.dJ T,C,rfl,λD=>none λL=>by simp at D;exact L.1 D,λD=>?_⟩
 simp at D
 have e1:cQ (x.cp -1)=x.cp -1:=aQ V V
 have l:0<=x.cp -1/\x.cp -1<f.ba.length:=V
 have I:=r.fp ⟨V,V,V⟩
 have X:=I.ba.pM l.1 l.2
 refine⟨h,I.g5,?_⟩
 rw[e1]
 refine⟨V,V,_,X,λB=>none λL=>by simp at B;exact L.2 B,λB=>?_⟩
 simp at B
 let⟨aa,ab⟩:=am _ (fA l.1 l.2) B
 have aI:=r.cO.heap.len
 refine⟨h,I.g5,V,V,_,X,h,I.g5,V,V,r.fX.ba.Oq l.1 l.2,?_⟩
 intro Q
 let⟨v,t3⟩:=r.xK l.1 l.2 0
 have B3:=K.to t3
 have al:ix (aH f.ba (x.cp -1))=(aH f.ba (x.cp -1) -1000).toNat:=rfl
 have e2:cQ (aH f.ba (x.cp -1) -1000)=aH f.ba (x.cp -1) -1000:=aQ V V
 refine⟨t3.dJ K,b,v.cO.box.cg 8,?_⟩
 rw[e2,<-al]
 refine⟨V,V,v.cO.heap.wr (o:=0) ab bh,?_⟩
 intro m4
 have M:cL f x.args≠[]->g C.D=0:=λw=>by
  rcases R.D with A|A
  .subst A;have:=F.len;simp at this;exact absurd (List.length_eq_zero_iff.1 this.symm) w
  .exact S.cO.new _ V
 have av:ap Q C (cL f x.args):=iU F λw=>t3.eA _ (iJ F w) (by rw[M w];simp)
 have aj:h.cap≠0:=λA=>by have:=(r.fX.ba.DL A).1;simp at this;rw[this]at l;simp at l;omega
 have ag:RF n.size g Q b s.heap C (cL f x.args):=RF.of z.cO.heap (λY=>(bd _ _ _ _ λA=>by have q1:=(r.fX.ba.D aj).2;have q2:=(r.cO.heap.D Y).1;rw[A,q1]at q2;omega).trans (Z.same _ (z.cO.heap.D Y).2)) (λw=>R.congr (t3.eA _ (iJ F w) (by rw[M w];simp))) M z.cO.cr.size
 let⟨ai,c4⟩:=v.cO.heap.setCell v.cO.new ab 1 x.bQ av ag
 let⟨S4,t4⟩:=v.gF (c4.mono λaK Y=>Or.inl Y) ai
 have Y:ji s.heap (ix (aH f.ba (x.cp -1))) ⟨1,x.bQ,cL f x.args⟩=s.heap.set (ix (aH f.ba (x.cp -1))) ⟨1,x.bQ,cL f x.args⟩:=by rw[ji,ae V]
 refine⟨t4.dJ B3,g,b,ix (aH f.ba (x.cp -1)),{f with ba:=gV f.ba (x.cp -1) 0},by rw[iy aa],by rw[Y];exact S4,(af.trans t3).trans t4,rfl,rfl,rfl,λy=>?_⟩
 rw[nH,an ⟨D,B⟩,Y,iy aa];rfl
end
end
section
variable{w:Int}
def LG:∀(b:List Int)(g:List bN),(∀v∈b,gB g v)->∀x,gB g x->gB (jm g b) x
 |[],g,_,x,c=>c
 |v::b,g,d,x,c=>by
  have e:=d v bg;have up:∀y,gB g y->gB (mW g v) y:=λy a=>⟨a.1,(fR.mW e _).2 a.2⟩;exact LG b (mW g v) (λy a=>up y (d y (ai _ a))) x (up x c)
def SU{h:List bN}(c:gB h w)(d:(aM h w).aP≠1){x:Int}(a:gB h x):gB (ft h w) x:=by
 let⟨b,f⟩:=bS c;refine⟨a.1,?_⟩;by_cases e:ix x=ix w
 .rw[e];unfold ft;rw[fR.ze b];simp only[];omega
 .exact(fR.ne e).2 a.2
section
variable{t:E}{e:Nat->Nat}{m:E}{j:Nat}{d p aS b g:O}{c:Int}{s:St}{q:List aY}{a:aY}{r v h:O}{u:List (List Ce)}
open Classical in
noncomputable def rY (g:List bN) (w:Int) (eA:Bool):List bN:=
 if(aM g w).aP=1/\eA=true then g.set (ix w) ⟨-1,0,dj (aM g w).aF.length⟩else apart g w
def DP(S:ST t e m j bB (IB d p c s aS b g) aS b g s.aS s.heap q a r v h u)(ab:gB s.heap w)(eA:Bool){az:Nat->Int}(N:fP s.heap az)(aZ:s.heap.length<=1000000000):
 aN cq 113 [vp j 0,vi w,vb eA] m λk A=>∃G:Bool,k=vb G/\(G=true<->(aM s.heap w).aP=1/\eA=true)/\∃ax ar,ST t ax A j bB (IB d p c s aS ar g) aS ar g s.aS (rY s.heap w eA) q a r v h u/\To e m ax A:=by
 apply vw (j,0)
 simp -zeta only[aD,aC]
 let⟨C,a7⟩:=bS ab
 have K:=aw C
 have a2:=S.cO.heap.len
 have a1:=ab.1
 have aJ:ix w=(w -1000).toNat:=rfl
 have e4:cQ (w -1000)=w -1000:=aQ V V
 have ag:=N.cell _ (aq C)
 have a4:=ag.hi
 have aX:=ag.fl
 have g8:af m j 8=some (O.v b):=S.cO.box.cg 8
 let⟨f0,Y,g1,g2,gf,gr⟩:=S.cO.heap.cg C
 have aY:=gf.len
 rw[e4,<-aJ]
 refine⟨b,g8,V,V,λA=>A=m/\¬((aM s.heap w).aP=1/\eA=true),⟨_,Y,λy=>⟨λz=>?_,λz=>⟨rfl,λx=>by rw[z]at x;simp at x⟩⟩,λy=>⟨rfl,λx=>by simp at y;exact y x.1⟩⟩,?_⟩
 .simp at y
  have W:Int.toNat (f0.len:Int)=(aM s.heap w).aF.length:=V
  refine⟨f0,g2,V,dw _,V,V,?_⟩
  rw[W]
  intro B
  have I:J m B:=(J.az m).aJ _
  have L:gZ m B aA 1 (.mk m.size 0 (aM s.heap w).aF.length (aM s.heap w).aF.length) ((dj (aM s.heap w).aF.length).map Ce.i):=by
   have X:B=m.push (.cells (bt ((dj (aM s.heap w).aF.length).map Ce.i)) aA):=by rw[<-ui]
   rw[X];exact Ot _
  let⟨D,t1⟩:=S.ext I
  clear_value B
  refine⟨D.cO.heap.wr (o:=0) K bh,?_⟩
  intro m2
  let⟨F,E⟩:=D.cO.heap.setCell D.cO.new K (-1) 0 (ap.gE L (by rw[kv];omega)) (RF.of S.cO.heap (λx=>I.same _ (S.cO.heap.D x).2) (λ_=>L) (λ_=>S.cO.new _ (ad _)) S.cO.cr.size)
  let⟨H,t2⟩:=D.gF (E.mono λx z=>Or.inl z) F
  refine⟨true,rfl,by simp[y,z],e,b,?_,t1.trans t2⟩
  rw[rY,an ⟨y,z⟩];exact H
 .rintro B ⟨rfl,ao⟩
  have ak:(false=true<->(aM s.heap w).aP=1/\eA=true):=⟨sx,λh=>absurd h ao⟩
  rw[show rY s.heap w eA=apart s.heap w by rw[rY,ae ao]]
  refine⟨_,Y,λy=>?_,λy=>?_⟩
  .simp at y
   refine⟨S.cO.heap.wr (o:=0) K bh,?_⟩
   intro m2
   let⟨F,E⟩:=S.cO.heap.setCell S.cO.new K 0 0 (f:=.nil) (l:=[]) ⟨rfl,aL,aL,aL⟩ (λT=>absurd rfl T)
   let⟨H,t2⟩:=S.gF (E.mono λx z=>Or.inl z) F
   refine⟨b,H.cO.box.cg 8,?_⟩
   intro m3 m4
   let⟨D,Q,kb⟩:=H.OY
   refine(uT D.cO.heap D.cO.new kb (fg _ _ _) bF).mono ?_
   rintro _ Z ⟨aa,P,M⟩
   let⟨I,R⟩:=D.gF M aa
   refine⟨_,P.cg 0,I.cO.mz (i:=8) aL,?_⟩
   intro m6
   let⟨L,U⟩:=I.jz 8 [.s (b.cut 0 (js (s.heap.set (ix w) ⟨0,0,[]⟩) (s.heap.set (ix w) ⟨0,0,[]⟩).length) 3)]
   refine⟨false,rfl,ak,_,b.cut 0 (js (s.heap.set (ix w) ⟨0,0,[]⟩) (s.heap.set (ix w) ⟨0,0,[]⟩).length) 3,?_,((t2.trans Q).trans R).trans U⟩
   rw[apart,an y];exact L
  .simp only[aj]at y
   have W:cQ ((aM s.heap w).aP -1)=(aM s.heap w).aP -1:=aQ V V
   refine⟨_,Y,S.cO.heap.wr (o:=0) K bh,?_⟩
   rw[W]
   intro m2
   let⟨F,E⟩:=S.cO.heap.rJ S.cO.new C ((aM s.heap w).aP -1)
   let⟨f1,k0,k1,k2,kf,kr⟩:=F.cg (eK C)
   simp only[]at kf kr
   have a0:=kf.len
   refine⟨f1,k2,?_⟩
   have ai:∀{A},dm (λx=>x=3) e B e A->af A j 8=some (O.v b):=λhc=>by rw[aE (hc.eA _ S.cO.box.lt (by rw[S.cO.QN];decide))];exact g8
   have am:∀k∈(aM s.heap w).aF,1000<=k->gB (ft s.heap w) k:=λk D b=>SU ab y (N.field (aq C) D b)
   have aI:∀U∈ft s.heap w,-10<=U.aP/\U.aP<=999999:=λU hq=>by
    rcases nX hq with rfl|⟨G,_,P⟩
    .simp only[];omega
    .have:=N.cell U (aq P);have h5:=this.lo;have h6:=this.hi;omega
   have aV:dm (λx=>x=3) e B e m2:=E
   refine dV (n:=(aM s.heap w).aF.length) V (λx A=>dL t.size e A b (jm (ft s.heap w) (kX ((aM s.heap w).aF.take x)))/\dm (λx=>x=3) e B e A/\ap A f1 (aM s.heap w).aF) ⟨F,E,kf⟩ ?_
   rintro x m3 aT μ z ⟨R,H,au⟩ av
   refine dit (λh5=>?_) λh5=>?_
   .let⟨k,D⟩:=cG ((aM s.heap w).aF) x
    have aR:k<=9223372036854775807:=by
     rcases dR (1000<=k)with h6|h6
     .have:=aw (bS (N.field (aq C) (aq D) h6)).1;unfold ix at this;omega
     .omega
    have aP:(jm (ft s.heap w) (kX ((aM s.heap w).aF.take x))).length=s.heap.length:=by rw[wB];simp[ft]
    have aK:1000<=k->gB (jm (ft s.heap w) (kX ((aM s.heap w).aF.take x))) k:=λb=>LG _ _ (λL I=>am L (dB (lF.1 I).1) (lF.1 I).2) k (am k (aq D) b)
    refine⟨V,V,k,by simpa using au.aH D,b,ai H,(iv (R.cells (by rw[aP];omega)) aR).mono ?_⟩
    rintro _ m4 ⟨ay,G,rfl,P,aG,Z⟩
    have L:dm (λx=>x=3) e B e m4:=H.trans (dm.eD _ Z H.new)
    have I:=R.eH (dm.eD (λ_=>False) Z H.new) id id
    have ac:=au.ext Z
    refine⟨ay,G,rfl,λah=>?_,λaH=>av V _ ⟨?_,L,ac⟩⟩
    .have al:=P.1 ah
     have aF:=aG ah
     subst aF
     let⟨Q,a5⟩:=bS al
     have aO:=aw Q
     have a3:=I.len
     obtain⟨f4,j0,_⟩:=I.cg Q
     have aW:=AB _ _ 999999 aI _ (aq Q)
     have a6:=od ((aM s.heap w).aF.take x)
     have a8:((aM s.heap w).aF.take x).length<=3:=bF
     have X:cQ ((aM (jm (ft s.heap w) (kX ((aM s.heap w).aF.take x))) k).aP+1)=(aM (jm (ft s.heap w) (kX ((aM s.heap w).aF.take x))) k).aP+1:=aQ V V
     have aB:Int.toNat ((ix k:Nat):Int)=ix k:=V
     refine⟨b,ai L,?_⟩
     rw[aB]
     refine⟨V,V,_,j0,V,V,I.wr (o:=0) aO bh,?_⟩
     rw[X]
     let⟨aa,M⟩:=I.rJ L.new Q ((aM (jm (ft s.heap w) (kX ((aM s.heap w).aF.take x))) k).aP+1)
     refine av V _ ⟨?_,L.trans M,iU ac λT=>M.eA _ (iJ ac T) (by rw[(kr T).1];decide)⟩
     have:kX [k]=[k]:=by simp[kX,al.1]
     rw[aU D,pv,this,EA]
     exact aa
    .have M:¬1000<=k:=λb=>fb P aH (aK b)
     have:kX [k]=[]:=by simp[kX];omega
     rw[aU D,pv,this,dY];exact I
   .rw[bY V]at R
    let⟨I,t3⟩:=S.gF (H.mono λx z=>Or.inl z) R
    refine⟨false,rfl,ak,e,b,?_,t3⟩
    rw[apart,ae y];exact I
def J0(Y:ST t e m j bB (IB d p c s aS b g) aS b g s.aS s.heap q a r v h u){f:Instr}{aa al:O}(ha:ap t aa f.args)(aj:∀z∈f.args,0<=z/\z<a.ak.length)(aq:f.args.length<=4)(av:f.op=0\/f.op=1\/f.op=2\/f.op=3\/f.op=4\/f.op=5)(h5:f.op=5->f.args.length=1)(h2:f.op≠0->f.op≠5->f.args.length=2)(ac:f.op≠0->∀z∈f.args,gR (aH a.ak z))
 (ar:a.ak.length=a.aR.length/\a.ba.length=a.aR.length/\a.aR.length<=2000)(hd:0<=f.dst/\f.dst<a.aR.length)(aw:s.aS.length<=1000000000):
 aN cq 102 [vp j 0,vp g.D (g.off+q.length*6),xv f aa al] m λ_ w=>Ef t e m j d p c (if f.op=0 then{s with ao:=q++[a.put f.dst f.bQ 0]}else if f.op=5 then{s with aS:=s.aS++[aH a.ak (aH f.args 0)],ao:=q++[a.put f.dst (aH a.ak (aH f.args 0)) 0]}else{s with ao:=q++[a.put f.dst (Pa f.op (aH a.ak (aH f.args 0)) (aH a.ak (aH f.args 1))) 0]}) w:=by
 apply tE (j,0) (g.D,g.off+q.length*6)
 simp -zeta only[aD,aC]
 intro y
 have ak:J m y:=(J.az m).aJ _
 have s1:y.size=m.size+1:=by simp[y]
 let⟨K,t1⟩:=Y.ext ak
 have T:yN e y [m.size]:=λab C=>by simp at C;subst C;exact⟨V,Y.cO.new _ (ad _)⟩
 clear_value y
 have X:=K.fp ⟨V,V,V⟩
 refine(vy X.g3 X.ak (ha.ext K.cO.cr) aj V).mono ?_
 rintro _ l ⟨ws,rfl,ow,ai⟩
 let⟨A,t2⟩:=K.ext ai
 have I:=T.to t2
 have ax:(cL a f.args).length=f.args.length:=by simp[cL]
 have D:ap l ws (cL a f.args):=ap.gE ow V
 have ay:=D.len
 have ah:=t1.trans t2
 have S:∀{F:Nat},F<f.args.length->(cL a f.args)[F]? =some (aH a.ak (aH f.args F)):=λ{F} hk=>by
  let⟨z,hy⟩:=dC hk;simp[cL,hy,Ym hy]
 have ag:∀{M:E}(hx:J l M)(H:Int),aN cq 103 [vp g.D (g.off+q.length*6),vi f.dst,vi H,vi 0] M λ_ w=>eG [m.size] M w/\Ef t e m j d p c {s with ao:=q++[a.put f.dst H 0]} w:=λhx H=>by
  let⟨SM,tM⟩:=A.ext hx;refine(rE SM hd.1 V hd.2 H 0).mono ?_;rintro _ w ⟨S',t'⟩;exact⟨t'.dJ (I.to tM),e,aS,b,g,S'.cO,(ah.trans tM).trans t'⟩
 refine⟨t2.dJ T,ws,rfl,λo=>?_,λn=>⟨λo=>?_,λN=>?_⟩⟩
 .simp at o;rw[an o];exact ag (J.az _) _
 .simp at n o
  rw[ae n,an o]
  have h1:=h5 o
  have au:(O.len aS)=s.aS.length:=by have:=A.cO.aS.len;simp at this;omega
  refine⟨V,V,_,D.aH (k:=0) (S V),aS,A.cO.box.cg 7,?_⟩
  intro G
  have B:J l G:=(J.az l).aJ _
  have jx:fS G l.size 0 [.i (aH a.ak (aH f.args ((0:Nat):Int)))]:=(cz.push l _ _).iE
  let⟨L,t3⟩:=A.ext B
  have U:=I.to t3
  clear_value G
  refine iL.append (zs:=[.i 0]) (x:=.mk l.size 0 1 1) (c:=[.i (aH a.ak (aH f.args 0))]) L.cO.aS L.cO.new rfl jx (by simp only[O.gJ];omega) λaf P m4 q1 q2=>?_
  have am:iL af m4 aA 1 2 P ((s.aS++[aH a.ak (aH f.args 0)]).map Ce.i):=by simpa using q1
  let⟨Z,Q⟩:=L.Iz q2 am
  have W:=U.to Q
  refine⟨Q.dJ U,Z.cO.mz (i:=7) aL,?_⟩
  intro m5
  let⟨S5,R⟩:=Z.jz 7 [.s P]
  refine⟨R.dJ W,(rE S5 hd.1 V hd.2 (aH a.ak (aH f.args 0)) 0).mono ?_⟩
  rintro _ m6 ⟨S6,t6⟩
  exact⟨t6.dJ (W.to R),af,P,b,g,S6.cO,(((ah.trans t3).trans Q).trans R).trans t6⟩
 .simp at n N
  rw[ae n,ae N]
  have h1:=h2 n N
  refine⟨V,V,_,D.aH (k:=0) (S V),V,V,_,D.aH (k:=1) (S V),?_⟩
  refine(OZ (ac n _ (fA V V)) (ac n _ (fA V V)) l).mono ?_
  rintro _ G ⟨rfl,B⟩
  exact⟨B.dp (λab C=>(I ab C).1),_,rfl,ag B _⟩
end
end
section
variable{b1 b2 b3 b k:Nat}{j:cR}{g:Int}{q:dz}{a:E}{e:List Int}
section
variable{y:E}{v:Nat->Nat}{u:E}{x:Nat}{d p aS z t:O}{c:Int}{s:St}{l:List aY}{f:aY}{r o h:O}{A:List (List Ce)}
def O0(S:ST y v u x bB (IB d p c s aS z t) aS z t s.aS s.heap l f r o h A){b:Instr}{m aB:O}(P:ap y m b.args)(ag:∀e∈b.args,0<=e/\e<f.ak.length)(au:1<=b.args.length/\b.args.length<=4)
 (aK:f.ak.length=f.aR.length/\f.ba.length=f.aR.length/\f.aR.length<=2000)(ay:s.heap.length<=1000000000)(aj:∀q∈f.aR,0<=q/\q<=999999)
 (az:gB s.heap (aH f.ak (aH b.args 0))){am:Nat->Int}(hI:fP s.heap am){R:Int}(ak:f.pc=R+1):
 aN cq 108 [vp x 0,vp t.D (t.off+l.length*6),xv b m aB] u λ_ a=>Ef y v u x d p c (tG s l {f with pc:=R} b) a:=by
 apply wj (x,0) (t.D,t.off+l.length*6)
 simp -zeta only[aD,aC]
 intro L
 have aA:J u L:=(J.az u).aJ _
 have s1:L.size=u.size+1:=by simp[L]
 let⟨N,t1⟩:=S.ext aA
 have B1:yN v L [u.size]:=λac G=>by simp at G;subst G;exact⟨V,S.cO.new _ (ad _)⟩
 clear_value L
 have aP:r.len=f.ak.length:=by have:=S.fX.ak.len;simp at this;omega
 have aO:o.len=f.aR.length:=by have:=S.fX.aR.len;simp at this;omega
 have aJ:h.len=f.ba.length:=by have:=S.fX.ba.len;simp at this;omega
 have aF:=P.len
 have aE:=P.cap
 have F:0<=aH b.args 0/\aH b.args 0<f.ak.length:=ag _ (fA V V)
 have ga:∀{a},J y a->af a m.D (m.off+Int.toNat (0:Int)*1)=some (vi (aH b.args 0)):=λhx=>(P.ext hx).pM V V
 obtain⟨_,_,_,g3,_,_⟩:=N.fX.iE
 generalize hw:aH f.ak (aH b.args 0)=w at*
 refine⟨r,g3,V,V,_,ga N.cO.cr,F.1,V,w,by rw[<-hw];exact(N.AF V).pM F.1 F.2,(DP N az (b.op==17) hI ay).mono ?_⟩
 rintro _ m2 ⟨ac,rfl,G,C,H,K,t2⟩
 have T:=B1.to t2
 have ar:(b.op==17)=true<->b.op=17:=aL
 rw[ar]at G
 have e1:Int.toNat (1:Int)=1:=rfl
 have e2:Int.toNat (m.len:Int)=m.len:=V
 have Z:∀{a},J y a->ap a (O.cut m 1 m.len 1) (b.args.drop 1):=λhx=>Vj (P.ext hx) au.1
 have aG:(O.cut m 1 m.len 1).len=b.args.length -1:=by have:=(Z (J.az y)).len;simp at this;omega
 have aI:(b.args.drop 1).length=b.args.length -1:=aL
 have ah:∀e∈b.args.drop 1,0<=e/\e<f.ak.length:=λe B=>ag e (xc B)
 rw[e1,e2]
 refine⟨t2.dJ B1,ac,rfl,λax=>?_,λaw=>?_⟩
 .obtain⟨_,_,_,_,_,g5⟩:=K.fX.iE
  have Q:=G.1 ax
  refine⟨h,g5,V,V,_,ga K.cO.cr,F.1,V,K.fX.ba.Oq F.1 V,?_⟩
  intro m3
  let⟨S3,t3⟩:=K.xK F.1 V w
  refine⟨t3.dJ T,V,V,V,?_⟩
  refine dV (n:=(b.args.drop 1).length) V (λk a=>ST y C a x bB (IB d p c s aS H t) aS H t s.aS (rY s.heap w (b.op==17)) l {f with ba:=gV f.ba (aH b.args 0) w,aR:=dF f.aR ((b.args.drop 1).take k)} r o h A/\To v u C a/\yN C a [u.size]) ⟨by rw[List.take_zero];exact S3,(t1.trans t2).trans t3,(T.to t3)⟩ ?_
  rintro k m4 al μ hk ⟨g,M,I⟩ ab
  have aa:∀q∈dF f.aR ((b.args.drop 1).take k),0<=q/\q<=1000010:=λq hq=>by
   have:=qX _ f.aR 999999 V aj q hq;have h3:((b.args.drop 1).take k).length<=4:=bF;omega
  refine dit (λY=>?_) λY=>?_
  .let⟨e,B⟩:=cG (b.args.drop 1) k
   have j:=ah e (aq B)
   have D:e<(dF f.aR ((b.args.drop 1).take k)).length:=by rw[lQ];omega
   have av:=FR (i:=e) aa V
   have W:cQ (aH (dF f.aR ((b.args.drop 1).take k)) e+1)=aH (dF f.aR ((b.args.drop 1).take k)) e+1:=aQ V V
   obtain⟨_,_,_,_,X,_⟩:=g.fX.iE
   refine⟨V,V,e,by simpa using(Z g.cO.cr).aH B,o,X,j.1,V,_,(g.JK (by simp only[lQ];omega)).pM j.1 D,j.1,V,g.fX.aR.Oq j.1 D,?_⟩
   rw[W]
   intro m5
   let⟨U,E⟩:=g.p7 j.1 D (aH (dF f.aR ((b.args.drop 1).take k)) e+1)
   refine⟨E.dJ I,ab V _ ⟨?_,M.trans E,I.to E⟩⟩
   rw[aU B,sN];exact U
  .rw[bY V]at g
   refine⟨C,aS,H,t,?_,M⟩
   have:tG s l {f with pc:=R} b={s with heap:=rY s.heap w (b.op==17),ao:=l++[{f with ba:=gV f.ba (aH b.args 0) w,aR:=dF f.aR (b.args.drop 1)}]}:=by
    unfold tG;simp only[];rw[hw,an Q,rY,an (by simpa using Q),ak]
   rw[this];exact g.cO
 .have ai:¬((aM s.heap w).aP=1/\b.op=17):=λQ=>by have:=G.2 Q;rw[aw]at this;simp at this
  refine⟨V,V,V,?_⟩
  refine dV (n:=(b.args.drop 1).length) V (λk a=>ST y C a x bB (IB d p c s aS H t) aS H t s.aS (rY s.heap w (b.op==17)) l {f with aR:=dF f.aR ((b.args.drop 1).take k)} r o h A/\To v u C a/\yN C a [u.size]) ⟨by simpa[dF]using K,t1.trans t2,T⟩ ?_
  rintro k m4 al μ hk ⟨g,M,I⟩ ab
  have aa:∀q∈dF f.aR ((b.args.drop 1).take k),0<=q/\q<=1000010:=λq hq=>by
   have:=qX _ f.aR 999999 V aj q hq;have h3:((b.args.drop 1).take k).length<=4:=bF;omega
  refine dit (λY=>?_) λY=>?_
  .let⟨e,B⟩:=cG (b.args.drop 1) k
   have j:=ah e (aq B)
   have D:e<(dF f.aR ((b.args.drop 1).take k)).length:=by rw[lQ];omega
   have av:=FR (i:=e) aa V
   have W:cQ (aH (dF f.aR ((b.args.drop 1).take k)) e+1)=aH (dF f.aR ((b.args.drop 1).take k)) e+1:=aQ V V
   obtain⟨_,_,_,_,X,_⟩:=g.fX.iE
   refine⟨V,V,e,by simpa using(Z g.cO.cr).aH B,o,X,j.1,V,_,(g.JK (by simp only[lQ];omega)).pM j.1 D,j.1,V,g.fX.aR.Oq j.1 D,?_⟩
   rw[W]
   intro m5
   let⟨U,E⟩:=g.p7 j.1 D (aH (dF f.aR ((b.args.drop 1).take k)) e+1)
   refine⟨E.dJ I,ab V _ ⟨?_,M.trans E,I.to E⟩⟩
   rw[aU B,sN];exact U
  .rw[bY V]at g
   refine⟨C,aS,H,t,?_,M⟩
   have:tG s l {f with pc:=R} b={s with heap:=rY s.heap w (b.op==17),ao:=l++[{f with aR:=dF f.aR (b.args.drop 1)}]}:=by
    unfold tG;simp only[];rw[hw,ae ai,rY,ae (by simpa using ai),ak]
   rw[this];exact g.cO
def nR.none{v:Nat->Nat}{u:E}:nR v u .nil []:=⟨[],iL.gE (gZ.nil u u _ _) (λa=>absurd rfl a),rfl,aL,aL⟩
def Ie(S:ST y v u x bB (IB d p c s aS z t) aS z t s.aS s.heap l f r o h A)(ad:l.length<=100000)(w:Int)(U:∀g,l.getLast?=some g->0<=f.dst/\f.dst<g.ak.length/\f.dst<g.aR.length):
 aN cq 114 [vp x 0,vi w] u λ_ a=>Ef y v u x d p c (match l.getLast? with|none=>{s with cB:=0,value:=w,ao:=[]}|some g=>{s with ao:=l.dropLast++[g.put f.dst w (gL w)]}) a:=by
 apply sR (x,0)
 simp -zeta only[aD,aC]
 have G:=S.fX.yw
 have aa:=S.fX.qA.le
 have B:cQ ((t.len:Int) -1)=(l.length:Int):=by rw[aQ V V];omega
 have L:Int.toNat (l.length:Int)=l.length:=V
 have C:af u x 9=some (O.v t):=S.cO.box.cg 9
 obtain⟨_,_,g2,_,_,_⟩:=S.fX.iE
 refine⟨t,C,t,C,?_⟩
 rw[B,L]
 refine⟨V,V,f.dst,g2,t,C,V,V,V,S.cO.mz (i:=9) aL,?_⟩
 intro H
 let⟨q,t2⟩:=S.cO.jz 9 [.s (t.cut 0 l.length 6)]
 obtain⟨b,_⟩:=q.jN (dm.az _ q.new) (q.ao.Vw)
 have ab:(t.cut 0 l.length 6).len=l.length:=by
  cases t with
  |nil=>simp at G
  |Af j I k=>simp at G
  |mk j I e c=>simp[O.cut]
 have e3:Int.toNat (0:Int)=0:=rfl
 refine⟨λD=>?_,λD=>?_⟩
 .have J:l=[]:=by simpa using D
  subst J
  refine⟨b.mz (i:=3) (by simp[kV]),?_⟩
  intro X
  let⟨j,t3⟩:=b.jz 3 [.i 0]
  refine⟨j.mz (i:=4) (by simp[kV]),?_⟩
  intro Y
  let⟨k,E⟩:=j.jz 4 [.i w]
  refine⟨k.mz (i:=9) (by simp[kV]),?_⟩
  intro K
  let⟨n,M⟩:=k.jz 9 [.s .nil]
  obtain⟨F,_⟩:=n.jN (dm.az _ n.new) (nR.none (v:=v) (u:=K))
  exact⟨v,aS,z,.nil,F,((t2.trans t3).trans E).trans M⟩
 .have n:l≠[]:=by simpa using D
  have ae:l.length≠0:=λB=>n (List.length_eq_zero_iff.1 B)
  obtain⟨g,j⟩:∃g,l.getLast?=some g:=⟨_,gH n⟩
  let⟨P,Q,R⟩:=U g j
  rw[j]
  simp only[]
  have W:l=l.dropLast++[g]:=by
   rw[gH n]at j;simp at j;rw[<-j];exact(fw n).symm
  have k:vt y v H x bB (IB d p c s aS z (t.cut 0 l.length 6)) aS z (t.cut 0 l.length 6) s.aS s.heap (l.dropLast++[g]):=
   ⟨b.cr,b.jE,b.new,b.box,b.QN,b.aS,b.heap,by rw[<-W];exact b.ao⟩
  let⟨r',I,h',Z,T⟩:=k.ao.fX
  have ac:l.dropLast.length=l.length -1:=aL
  have M:cQ ((l.length:Int) -1)=((l.length -1:Nat):Int):=by rw[aQ V V];omega
  have N:Int.toNat ((l.length -1:Nat):Int)=l.dropLast.length:=V
  refine⟨t.cut 0 l.length 6,k.box.cg 9,?_⟩
  rw[M,N]
  refine⟨V,V,(na w H).mono ?_⟩
  rintro _ X ⟨rfl,F⟩
  let⟨J,t3⟩:=(ST.mk k T).ext F
  refine⟨_,rfl,F.da (k.box.cg 9),(rE J P Q R w (gL w)).mono ?_⟩
  rintro _ Y ⟨K,E⟩
  exact⟨v,aS,z,_,K.cO,(t2.trans t3).trans E⟩
end
def YP{m M:E}(j:J m M){nb:Nat}(o:m.size<=nb)(t:nb<M.size)(b:Nat)(i:List Ce)
 (c:(b1=M.size\/b1=M.size+1\/b1=M.size+2)/\(b2=M.size\/b2=M.size+1\/b2=M.size+2)/\(b3=M.size\/b3=M.size+1\/b3=M.size+2)/\b1≠b2/\b1≠b3/\b2≠b3):
 ru m (ah (((M.push (.cells (bt (mN [.i (0:Int)] b)) 3)).push (.cells (bt (mN [.i (0:Int)] b)) 3)).push (.cells (bt (mN [.i (0:Int)] b)) 3)) nb 0 i) b1 b2 b3 b (dj b) (dj b) (dj b):=by
 rw[ui]
 generalize d:M.push (.cells (bt ((dj b).map Ce.i)) 3)=m2
 generalize e:m2.push (.cells (bt ((dj b).map Ce.i)) 3)=m3
 generalize f:m3.push (.cells (bt ((dj b).map Ce.i)) 3)=m4
 have k:m2.size=M.size+1:=by simp[<-d]
 have l:m3.size=M.size+2:=by simp[<-e,k]
 have u:m4.size=M.size+3:=by simp[<-f,l]
 have s:J M m2:=d▸J.push _ _
 have n:J m2 m3:=e▸J.push _ _
 have h:J m3 m4:=f▸J.push _ _
 have p:cz m4 M.size aA ((dj b).map Ce.i):=((d▸cz.push M _ _:cz m2 M.size aA ((dj b).map Ce.i)).ext n).ext h
 have q:cz m4 m2.size aA ((dj b).map Ce.i):=(e▸cz.push m2 _ _:cz m3 m2.size aA ((dj b).map Ce.i)).ext h
 have r:cz m4 m3.size aA ((dj b).map Ce.i):=f▸cz.push m3 _ _
 have g:∀a,(a=M.size\/a=M.size+1\/a=M.size+2)->cz (ah m4 nb 0 i) a aA ((dj b).map Ce.i):=λa c=>by
  have:cz m4 a aA ((dj b).map Ce.i):=by
   rcases c with rfl|rfl|rfl
   .exact p
   .rw[<-k];exact q
   .rw[<-l];exact r
  exact this.congr (bd _ _ _ _ V)
 exact⟨(j.trans ((s.trans n).trans h)).ah o _ _,by have:=j.size;rw[av];omega,g _ c.1,g _ c.2.1,g _ c.2.2.1,by simp[kv]⟩
def Ih{m:E}{d p:O}(f:fj m d p j)(o:0<=g)(h:j.cF[g.toNat]? =some q)(b:0<=q.ak/\q.ak<=2000)(e:Int):
 aN cq 83 [.agg #[O.v d,O.v p],vi g,vi e] m λv a=>∃b1 b2 b3,v=.agg #[vi g,vi 0,vi e,O.v (.mk b1 0 q.ak.toNat q.ak.toNat),O.v (.mk b2 0 q.ak.toNat q.ak.toNat),O.v (.mk b3 0 q.ak.toNat q.ak.toNat)]/\
  ru m a b1 b2 b3 q.ak.toNat (dj q.ak.toNat) (dj q.ak.toNat) (dj q.ak.toNat):=by
 apply CI
 simp -zeta only[aD,aC]
 intro k c
 have i:J m c:=((J.az m).aJ _).aJ _
 have s:k.size=m.size+1:=by simp[k]
 have C:c.size=m.size+2:=by simp[c,s]
 have y:=f.cF.len
 have x:=aw h
 clear_value c
 obtain⟨u,z,w,_,_,_,_,_,_,r,_⟩:=(f.ext i).cF.aH h
 refine⟨o,V,q.ak,r,⟨b.1,dw _,V,V,?_⟩,⟨b.1,dw _,V,V,?_⟩,⟨b.1,dw _,V,V,?_⟩⟩
 all_goals
  intro l
  refine⟨⟨b.1,dw _,V,V,?_⟩,⟨b.1,dw _,V,V,?_⟩⟩
  all_goals
   intro n
   refine⟨b.1,dw _,V,V,?_⟩
   intro A B
   have t:l.size=c.size+1:=by simp[l]
   have D:n.size=c.size+2:=by simp[n,t]
   exact⟨_,_,_,rfl,YP i V V q.ak.toNat _ V⟩
def ru.AK{d:E}{ak aR ba:List Int}(N:ru d a b1 b2 b3 b ak aR ba)(e:k<b)(v:Int):fN a b1 k 1/\ru d (ah a b1 k [.i v]) b1 b2 b3 b (ak.set k v) aR ba:=by
 have c:=N.lo;refine⟨N.kr.fN (by simp[N.len.1];omega),N.ext.ah c.1 _ _,by rw[av];exact c,?_,N.ko.congr (bd _ _ _ _ V),N.kh.congr (bd _ _ _ _ V),by simp[N.len]⟩;have:=cz.ah (m:=a) (o:=k) (r:=[.i v]) N.kr;rw[AJ]at this;exact this
def ru.p7{d:E}{ak aR ba:List Int}(N:ru d a b1 b2 b3 b ak aR ba)(e:k<b)(v:Int):fN a b2 k 1/\ru d (ah a b2 k [.i v]) b1 b2 b3 b ak (aR.set k v) ba:=by
 have c:=N.lo;refine⟨N.ko.fN (by simp[N.len.2.1];omega),N.ext.ah c.2.1 _ _,by rw[av];exact c,N.kr.congr (bd _ _ _ _ V),?_,N.kh.congr (bd _ _ _ _ V),by simp[N.len]⟩;have:=cz.ah (m:=a) (o:=k) (r:=[.i v]) N.ko;rw[AJ]at this;exact this
def yC(cT:List Int):∀(e r:List Int)(k:Nat),dN cT k (e++r)=dN cT k e++dN cT (k+e.length) r
 |[],r,k=>by simp[dN]
 |b::e,r,k=>by
  have:=yC cT e r (k+1);simp only[cZ,dN,this,aZ];have a:k+(e.length+1)=k+1+e.length:=V;rw[a]
def MI{k:Nat}(h:k<b):dj (b -k)=0::dj (b -(k+1)):=by
 have:b -k=(b -(k+1))+1:=V;rw[this];rfl
def V5(h:e.length<b)(v:Int):(e++dj (b -e.length)).set e.length v=(e++[v])++dj (b -(e.length+1)):=by
 rw[MI h];simp
def YC(h:e.length<b):e++dj (b -e.length)=(e++[0])++dj (b -(e.length+1)):=by
 rw[MI h];simp
section
variable{A:E}{t:Nat->Nat}{m:E}{z:Nat}{d p aS y v:O}{c:Int}{s:St}{u:List aY}{w:aY}{r o h:O}{B:List (List Ce)}
def Gh(W:ST A t m z bB (IB d p c s aS y v) aS y v s.aS s.heap u w r o h B)(aP:fj A d p j)(am:0<=g)(Z:j.cF[g.toNat]? =some q)(aT:0<=q.ak/\q.ak<=2000){ws:O}{b:List Int}(hw:ap m ws b)(aV:b≠[]->t ws.D=0)(bb:(b.length:Int)<=q.ak)(U:Instr)(ab aX:O)
 (a6:u.length<=10000)(a4:0<=s.bu/\s.bu<=100000):
 aN cq 112 [vp z 0,vi g,O.v ws,xv U ab aX] m λ_ a=>Ef A t m z d p c {s with bu:=s.bu+1,ao:=if U.op=24 then u++[bX j g w.dst b]else u++[w,bX j g U.dst b]} a:=by
 apply wi (z,0)
 simp -zeta only[aD,aC]
 intro R
 have aW:J m R:=(J.az m).aJ _
 have s1:R.size=m.size+1:=by simp[R]
 let⟨S1,t1⟩:=W.ext aW
 have B1:yN t R [m.size]:=λC D=>by simp at D;subst D;exact⟨V,W.cO.new _ (ad _)⟩
 clear_value R
 have a5:=W.fX.yw
 have a0:=W.fX.qA.le
 have e0:cQ (s.bu+1)=s.bu+1:=aQ V V
 have aG:cQ ((v.len:Int) -1)=(u.length:Int):=by rw[aQ V V];omega
 have e2:Int.toNat (u.length:Int)=u.length:=V
 refine⟨s.bu,S1.cO.box.cg 5,S1.cO.mz (i:=5) aL,?_⟩
 rw[e0]
 intro m2
 let⟨P,t2⟩:=S1.jz 5 [.i (s.bu+1)]
 replace P:ST A t m2 z bB (IB d p c {s with bu:=s.bu+1} aS y v) aS y v s.aS s.heap u w r o h B:=P
 replace t2:To t R t m2:=t2
 have B2:=B1.to t2
 have g9:af m2 z 9=some (O.v v):=P.cO.box.cg 9
 obtain⟨_,_,g2,_,_,_⟩:=P.fX.iE
 refine⟨t2.dJ B1,v,g9,?_⟩
 rw[aG,e2]
 clear_value m2
 have ay:=t1.trans t2
 refine⟨λI a=>∃K X,vt A t a z bB (IB d p c {s with bu:=s.bu+1} aS y X) aS y X s.aS s.heap K/\To t m t a/\yN t a [m.size]/\K.length<=10001/\(if U.op=24 then u++[bX j g w.dst b]else u++[w,bX j g U.dst b])=K++[bX j g I b],⟨λT=>?_,λT=>?_⟩,?_⟩
 .simp at T
  refine⟨v,g9,V,V,w.dst,g2,v,g9,V,V,V,P.cO.mz (i:=9) aL,?_⟩
  intro Q
  let⟨G,t3⟩:=P.cO.jz 9 [.s (v.cut 0 u.length 6)]
  obtain⟨k,_⟩:=G.jN (dm.az _ G.new) (G.ao.Vw)
  refine⟨t3.dJ B2,u,v.cut 0 u.length 6,k,ay.trans t3,B2.to t3,V,?_⟩
  rw[an T]
 .simp at T
  refine⟨u++[w],v,P.cO,ay,B2,bF,?_⟩
  rw[ae T];simp
 rintro I Q ⟨K,X,G,t3,B3,hX,aI⟩
 rw[aI]
 have ah:dO j g=q:=by simp[dO,Z]
 have ag:=aP.ext G.cr
 refine⟨d,G.box.cg 0,p,G.box.cg 1,(Ih ag am Z aT I).mono ?_⟩
 rintro _ L ⟨b1,b2,b3,rfl,aa⟩
 have a7:=aa.lo
 have al:∀C∈[m.size],C<Q.size:=λC D=>(B3 C D).1
 have a9:m.size<Q.size:=al _ aL
 refine⟨aa.ext.dp al,_,_,_,_,_,_,rfl,?_⟩
 intro m5 m6
 have aH:J L m6:=((J.az L).aJ _).ah (ad _) _ _
 have s6:m6.size=L.size+1:=by simp[m6,m5,av]
 have N6:=aa.SN aH
 clear_value m6
 have ba:=hw.len
 have iw:∀{M},J Q M->ap M ws b:=λhx=>(iU hw λk=>t3.eA _ (iJ hw k) (by rw[aV k];decide)).ext hx
 obtain⟨pa,pl,pc,_,aO,_,_,k1,_,_,_⟩:=ag.cF.aH Z
 have a8:=aw Z
 have a_:=ag.cF.len
 have aq:∀(k:Nat),(q.cT.any λF=>F==(k:Int))=true<->(k:Int)∈q.cT:=λk=>aL
 simp -zeta only[O.jF,O.nh,O.gJ,bT]
 refine dV (n:=b.length) V (λk a=>ru Q a b1 b2 b3 q.ak.toNat (b.take k++dj (q.ak.toNat -k)) (dN q.cT 0 (b.take k)++dj (q.ak.toNat -k)) (dj q.ak.toNat)/\L.size<a.size) ⟨by simpa[dN]using N6,V⟩ ?_
 rintro k H aZ μ hk ⟨S,s7⟩ ar
 have tL:∀{ma mc:E},(∀C,C=L.size\/C=m.size->mc[C]? =ma[C]?)->eG [L.size,m.size] ma mc:=λhh C D=>hh C (by simpa using D)
 have tk:(b.take k).length=k:=bF
 have au:(dN q.cT 0 (b.take k)).length=k:=by rw[lX,tk]
 refine dit (λh1=>?_) λh1=>?_
 .let⟨F,hy⟩:=cG b k
  have ek:Int.toNat (k:Int)*1=k:=V
  have aj:k<q.ak.toNat:=V
  let⟨w8,N⟩:=S.AK aj F
  have er:(b.take k++dj (q.ak.toNat -k)).set k F=b.take (k+1)++dj (q.ak.toNat -(k+1)):=by
   have:=V5 (e:=b.take k) (b:=q.ak.toNat) V F;rw[tk]at this;rw[this,aU hy]
  rw[er]at N
  have eo:dN q.cT 0 (b.take (k+1))=dN q.cT 0 (b.take k)++[if q.cT.any (λF=>F==(k:Int))then 0 else gL F]:=by
   rw[aU hy,yC,tk];simp[dN]
  refine⟨V,V,F,by simpa using(iw S.ext).aH hy,V,V,?_⟩
  rw[ek]
  refine⟨w8,?_⟩
  intro m8
  have s8:m8.size=H.size:=av _ _ _ _
  refine⟨tL λC D=>bd _ _ _ _ V,?_⟩
  replace N:ru Q m8 b1 b2 b3 q.ak.toNat (b.take (k+1)++dj (q.ak.toNat -(k+1))) (dN q.cT 0 (b.take k)++dj (q.ak.toNat -k)) (dj q.ak.toNat):=N
  clear_value m8
  refine⟨p,N.ext.af (G.box.cg 1),am,V,pl,N.ext.af k1,(lY (aO.ext N.ext) _).mono ?_⟩
  rintro _ m9 ⟨C,rfl,D,ac⟩
  have N9:=N.SN ac
  have s9:=ac.size
  refine⟨ac.dp bF,C,rfl,λaz=>?_,λax=>?_⟩
  .have aB:¬((k:Int)∈q.cT):=nb D az
   refine(na F m9).mono ?_
   rintro _ aK ⟨rfl,Y⟩
   have aM:=Y.size
   let⟨aJ,ai⟩:=(N9.SN Y).p7 aj (gL F)
   have ak:(dN q.cT 0 (b.take k)++dj (q.ak.toNat -k)).set k (gL F)=dN q.cT 0 (b.take (k+1))++dj (q.ak.toNat -(k+1)):=by
    have:=V5 (e:=dN q.cT 0 (b.take k)) (b:=q.ak.toNat) V (gL F);rw[au]at this;rw[this,eo,ae (λhh=>aB ((aq k).1 hh))]
   rw[ak]at ai
   refine⟨Y.dp bF,_,rfl,aE (Y.same L.size V) 4,V,V,aJ,?_⟩
   intro aF
   refine⟨tL λC D=>bd _ _ _ _ V,ar V _ ⟨ai,by simp only[aF,av];omega⟩⟩
  .have Y:(k:Int)∈q.cT:=yb D ax
   refine ar V _ ⟨?_,V⟩
   have:=YC (e:=dN q.cT 0 (b.take k)) (b:=q.ak.toNat) V
   rw[au]at this
   rw[eo,an ((aq k).2 Y),<-this];exact N9
 .have aR:k=b.length:=V
  subst aR
  rw[fy]at S
  have hc:dm (λ_=>False) t Q (pX t b1 b2 b3 K.length) H:=S.eH G.new
  let⟨a1,a2,a3⟩:=S.qA (a:=t) (g:=K.length)
  let⟨F,t7⟩:=G.gF (hc.mono λ_=>False.elim) (G.heap.eH hc id id)
  have B7:yN (pX t b1 b2 b3 K.length) H [L.size,m.size]:=λC D=>by
   simp at D;refine⟨V,?_⟩;unfold pX;rw[eJ V,eJ V,eJ V];rcases D with rfl|rfl
   .exact G.new _ V
   .exact(B3 _ aL).2
  refine⟨X,F.box.cg 9,?_⟩
  intro N
  have ac:J H N:=(J.az H).aJ _
  have jx:fS N H.size 0 [.i g,.i 0,.i I,.s (.mk b1 0 q.ak.toNat q.ak.toNat),.s (.mk b2 0 q.ak.toNat q.ak.toNat),.s (.mk b3 0 q.ak.toNat q.ak.toNat)]:=(cz.push H _ _).iE
  let⟨Y,az⟩:=F.ext ac
  have aj:=B7.to az
  clear_value N
  have ch:=λ{k:Nat}{s:O}{e:List Ce}(ab:iL (pX t b1 b2 b3 K.length) H aA 1 k s e)=>ab.eH (dm.eD (λ_=>False) ac F.new) id
  have aM:(bX j g I b).ak=b++dj (q.ak.toNat -b.length):=by simp[bX,ah]
  have aK:(bX j g I b).aR=dN q.cT 0 b++dj (q.ak.toNat -b.length):=by simp[bX,ah]
  have aJ:(bX j g I b).ba=dj q.ak.toNat:=by simp[bX,ah]
  refine⟨ac.da (F.box.cg 9),nR.push Y.ao Y.new (x:=.mk H.size 0 1 1) rfl (a:=bX j g I b) jx (by rw[aM];exact ch a1) (by rw[aK];exact ch a2) (by rw[aJ];exact ch a3) V λax qs aY q1 q2=>?_⟩
  have ai:To _ N ax aY:=q2.mono λk hk=>V
  let⟨ak,be⟩:=Y.jN (q2.mono λk hk=>V) q1
  refine⟨ai.dJ aj,ak.mz (i:=9) aL,?_⟩
  intro bc
  let⟨aF,aB⟩:=ak.jz 9 [.s qs]
  exact⟨aB.dJ (aj.to ai),ax,aS,y,qs,aF,(((t3.trans t7).trans az).trans ai).trans aB⟩
end
end
section
def ME(ak:List Int):∀(b aR:List Int)(n:Int),(∀q∈aR,n<=q)->∀q∈bE ak aR b,n -b.length<=q
 |[],aR,n,h,q,c=>by have:=h q c;simp;omega
 |r::b,aR,n,h,q,c=>by
  have k:∀d,(∀q∈d,n -1<=q)->q∈bE ak d b->n -(r::b).length<=q:=λd j a=>by
   have:=ME ak b d (n -1) j q a;simp only[aZ];omega
  rw[bE]at c;refine k _ (λg a=>?_) c;split at a
  .rcases pS a with e|e
   .rcases aW r.toNat aR.length with f|f
    .let⟨y,i⟩:=dC f;have:=h y (aq i);rw[HW i]at e;omega
    .have:gV aR r (aH aR r -1)=aR:=by unfold gV;exact rU f
     rw[this]at a;have:=h g a;omega
   .have:=h g e;omega
  .have:=h g a;omega
section
variable{q:E}{g:Nat->Nat}{m:E}{k:Nat}{d p aS j c:O}{a:St}{b:List aY}{f:aY}{r t h:O}{u:List (List Ce)}
def Rh{z:cR}{v:Instr}(C:zR z a b f v){aR:List Int}(aG:aR=bE f.ak f.aR (bU z v))(hM:lx z a f v aR)
 (aa:ST q g m k bB (IB d p (bW z) a aS j c) aS j c a.aS a.heap b f r t h u)(a9:fj q d p z){ak aV:O}(ha:ap q ak v.args)(hj:ap q aV v.eN)(cH:a.heap.length<=900000000)(cM:a.aS.length<=900000000):
 aN cq 60 [vp k 0,vp c.D (c.off+b.length*6),xv v ak aV] m λ_ Q=>Ef q g m k d p (bW z) (fW z a b f v aR) Q:=by
 apply yX (k,0) (c.D,c.off+b.length*6)
 simp -zeta only[aD,aC]
 intro m1
 have co:J m m1:=(J.az m).aJ _
 have s1:m1.size=m.size+1:=by simp[m1]
 let⟨S1,t1⟩:=aa.ext co
 have B1:yN g m1 [m.size]:=λP hb=>by simp at hb;subst hb;exact⟨V,aa.cO.new _ (ad _)⟩
 clear_value m1
 have cI:=C.Gy
 have cK:aR.length=f.aR.length:=by rw[aG];exact kd _ _ _
 have cS:r.len=f.ak.length:=by have:=aa.fX.ak.len;simp at this;omega
 have cJ:t.len=f.aR.length:=by have:=aa.fX.aR.len;simp at this;omega
 have cx:=ha.len
 have bk:v.args.length<=4:=C.lz.1
 have cO:0<=f.pc/\f.pc<=100000:=by
  have cg:=C.F.pc;obtain⟨pq,_,ch,hP,_,_⟩:=C.I;rw[ch]at cg;have cP:=hP.len;omega
 have e4:cQ (f.pc+1)=f.pc+1:=aQ V V
 have cF:b.length<=1000:=by
  have bP:=C.ok.depth;have b_:=C.ok.bu;have cd:=C.ok.dT;rw[C.fr]at bP;simp at bP;omega
 refine(wg (a9.ext S1.cO.cr) (S1.cO.box.cg 1) C.call (ha.ext S1.cO.cr) V C.lz.2.2.2.1).mono ?_
 rintro _ m2 ⟨ts,lt,rfl,ba,_,bg,b0,_⟩
 let⟨S2,t2⟩:=S1.ext bg
 have B2:=B1.to t2
 have cU:=Jo z v
 have bp:=ba.len
 have b1:bU z v≠[]->g ts.D=0:=λac=>by
  rcases b0 with w|w|w
  .subst w;simp at bp;exact absurd (List.length_eq_zero_iff.1 bp.symm) ac
  .rw[w];refine aa.cO.jE _ (iJ ha λh0=>?_);let⟨R,B⟩:=UT _ ac;have:=Cw B;rw[h0]at this;simp at this
  .exact aa.cO.new _ V
 refine⟨t2.dJ B1,ts,lt,rfl,?_⟩
 refine dV (n:=(bU z v).length) V (λL Q=>ST q g Q k bB (IB d p (bW z) a aS j c) aS j c a.aS a.heap b {f with aR:=bE f.ak f.aR ((bU z v).take L)} r t h u/\To g m2 g Q) ⟨S2,dm.az _ S2.cO.new⟩ ?_
 rintro L m3 b6 μ hk ⟨S3,t3⟩ bq
 have B3:=B2.to t3
 have cb:(bE f.ak f.aR ((bU z v).take L)).length=f.aR.length:=kd _ _ _
 refine dit (λh1=>?_) λh1=>?_
 .let⟨R,B⟩:=cG (bU z v) L
  have A:=C.KK R (aq B)
  obtain⟨_,_,_,G,I,_⟩:=S3.fX.iE
  have K:ap m3 ts (bU z v):=iU ba λac=>t3.eA _ (iJ ba ac) (by rw[b1 ac];decide)
  have F:bE f.ak f.aR ((bU z v).take (L+1))=if 1000<=aH f.ak R then gV (bE f.ak f.aR ((bU z v).take L)) R (aH (bE f.ak f.aR ((bU z v).take L)) R -1)else bE f.ak f.aR ((bU z v).take L):=by
   rw[aU B,vn];rfl
  refine⟨V,V,R,by simpa using K.aH B,r,G,A.1,V,_,(S3.AF (by show f.ak.length<=_;omega)).pM A.1 A.2,λT=>?_,λT=>?_⟩
  .simp only[oJ,ar]at T
   have D:R<(bE f.ak f.aR ((bU z v).take L)).length:=V
   have M: -4<=aH (bE f.ak f.aR ((bU z v).take L)) R/\aH (bE f.ak f.aR ((bU z v).take L)) R<=999999:=by
    let⟨qq,aP,be⟩:=k8 _ _ _ _ (oO A.1 D);have Y:=C.O9 qq (aq aP);have h8:=ME f.ak ((bU z v).take L) f.aR 0 (λau hq=>(C.O9 au hq).1) _ (fA A.1 D);have h9:((bU z v).take L).length<=4:=bF;omega
   have e5:cQ (aH (bE f.ak f.aR ((bU z v).take L)) R -1)=aH (bE f.ak f.aR ((bU z v).take L)) R -1:=aQ V V
   refine⟨t,I,A.1,V,_,(S3.JK (by show(bE _ _ _).length<=_;omega)).pM A.1 D,A.1,V,S3.fX.aR.Oq A.1 D,?_⟩
   rw[e5]
   intro H
   let⟨y,t4⟩:=S3.p7 A.1 D (aH (bE f.ak f.aR ((bU z v).take L)) R -1)
   refine⟨t4.dJ B3,bq V _ ⟨?_,t3.trans t4⟩⟩
   rw[F,an T];exact y
  .simp only[oJ,bG]at T
   refine bq V _ ⟨?_,t3⟩
   rw[F,ae T];exact S3
 rw[bY V,<-aG]at S3
 clear bq cb hk h1 b1 ba b0 bp
 obtain⟨_,g1,_,_,_,_⟩:=S3.fX.iE
 refine⟨f.pc,g1,S3.fX.VC,?_⟩
 rw[e4]
 intro H
 let⟨y,t4⟩:=S3.Ok (f.pc+1)
 have K:yN g H [m.size]:=B3.to t4
 have b3:eG [m.size] m3 H:=t4.dJ B3
 have Z:To g m g H:=((t1.trans t2).trans t3).trans t4
 clear t4
 replace y:ST q g H k bB (IB d p (bW z) a aS j c) aS j c a.aS a.heap b {f with aR:=aR,pc:=f.pc+1} r t h u:=y
 refine⟨b3,?_⟩
 clear b3 g1 S3 t3 B3 t2 B2 S2 bg b6 μ
 clear_value H
 have U:∀{M M':E},eG [m.size] M M'->∀am,af M' m.size am=af M m.size am:=λh am=>aE (h _ aL) am
 have hd:=C.dst
 have bm:f.ak.length=aR.length/\f.ba.length=aR.length/\aR.length<=2000:=V
 have ay:1<=v.args.length->0<=aH v.args 0/\aH v.args 0<f.ak.length:=λh1=>C.arg _ (fA V V)
 have ga:∀{Q},J q Q->1<=v.args.length->af Q ak.D (ak.off+Int.toNat (0:Int)*1)=some (vi (aH v.args 0)):=λhx h1=>(ha.ext hx).pM V V
 have gr:∀{g m bx aS j c lo ax t h u own' pc'},ST q g m k bB bx aS j c lo ax b {f with aR:=own',pc:=pc'} r t h u->∀{am:Int},0<=am->am<f.ak.length->af m r.D (r.off+Int.toNat am*1)=some (vi (aH f.ak am)):=λaa am h0 h1=>(aa.AF (by simp only[];omega)).pM h0 h1
 have ag:∀{g m bx aS j c lo ax t h u own' pc'},ST q g m k bB bx aS j c lo ax b {f with aR:=own',pc:=pc'} r t h u->af m c.D (c.off+b.length*6+3)=some (O.v r):=λaa=>aa.fX.iE.2.2.2.1
 have cr:∀r',r'∈v.args->aH f.ak r'<1000->gR (aH f.ak r'):=λr' cj aT=>by
  have bV:=C.arg r' cj;rcases C.F.Sp _ (fA bV.1 bV.2)with T|T
  .exact T
  .omega
 obtain⟨pq,_,_,_,_,hI⟩:=C.I
 have al:=hI.op
 clear hI
 have bt:∀{bs:Nat->Nat}{bZ:O}{ax:List bN}{M:E}(SM:ST q bs M k bB (IB d p (bW z) {a with heap:=ax} aS bZ c) aS bZ c a.aS ax b {f with aR:=aR,pc:=f.pc+1} r t h u)(tM:To g m bs M)(BM:yN bs M [m.size])(F bb:Int)(s':St),s'={a with heap:=ax,ao:=b++[aY.put {f with aR:=aR,pc:=f.pc+1} v.dst F bb]}->
  aN cq 103 [vp c.D (c.off+b.length*6),vi v.dst,vi F,vi bb] M λ_ Q=>eG [m.size] M Q/\Ef q g m k d p (bW z) s' Q:=λSM tM BM F bb s' w=>by
  refine(rE SM hd.1 (by show v.dst<f.ak.length;omega) (by show v.dst<aR.length;omega) F bb).mono ?_
  rintro _ Q ⟨S',t'⟩
  exact⟨t'.dJ BM,_,aS,_,c,by rw[w];exact S'.cO,tM.trans t'⟩
 have bf:∀{M:E}(hx:J H M)(X:Int)(s':St),s'={a with ao:=b++[{f with aR:=aR,pc:=X}]}->
  fN M c.D (c.off+b.length*6+1) 1/\eG [m.size] M (ah M c.D (c.off+b.length*6+1) [.i X])/\Ef q g m k d p (bW z) s' (ah M c.D (c.off+b.length*6+1) [.i X]):=λhx X s' w=>by
  let⟨SM,tM⟩:=y.ext hx
  let⟨S',t'⟩:=SM.Ok X
  exact⟨SM.fX.VC,t'.dJ (K.to tM),g,aS,j,c,by rw[w];exact S'.cO,(Z.trans tM).trans t'⟩
 refine⟨λw=>?_,λe0=>?_⟩
 .simp only[bR,aI]at w
  refine(J0 y ha C.arg bk w (λe5=>C.lz.2.1 (Or.inl e5)) (λe0 e5=>C.lz.2.2.1 V) (λe0 R B=>cr R B (hM.nV V R B)) bm ⟨hd.1,by show v.dst<aR.length;omega⟩ V).mono ?_
  rintro _ W ⟨aF,aW,aB,aJ,L5,B⟩
  refine⟨B.dJ K,aF,aW,aB,aJ,?_,Z.trans B⟩
  have:fW z a b f v aR=(if v.op=0 then{a with ao:=b++[aY.put {f with aR:=aR,pc:=f.pc+1} v.dst v.bQ 0]}else if v.op=5 then{a with aS:=a.aS++[aH f.ak (aH v.args 0)],ao:=b++[aY.put {f with aR:=aR,pc:=f.pc+1} v.dst (aH f.ak (aH v.args 0)) 0]}else{a with ao:=b++[aY.put {f with aR:=aR,pc:=f.pc+1} v.dst (Pa v.op (aH f.ak (aH v.args 0)) (aH f.ak (aH v.args 1))) 0]}):=by
   unfold fW;simp only[];by_cases A:v.op=0
   .rw[an A,an A]
   rw[ae A,ae A];by_cases D:v.op=5
   .rw[ae V,an D,an D]
   .rw[an V,ae D]
  rw[this];exact L5
 simp only[br,aj]at e0
 have bd:¬(v.op=1\/v.op=2\/v.op=3\/v.op=4):=V
 have ct:∀F∈f.ba,F≠0->1000<=F/\ix F<a.heap.length:=λF hw ac=>by
  obtain⟨h1,dd,ca,_⟩:=C.LD F hw ac;exact⟨h1,aw ca⟩
 refine⟨λw=>?_,λe6=>?_⟩
 .simp only[aI]at w
  have h6:=C.lz.2.2.2.2.1 w
  refine(Gl y ha C.arg bk bm ⟨h6.1,h6.2.1⟩ V ct).mono ?_
  rintro _ W ⟨aF,aB,A,N,rfl,S,B,er,eo,ep,ec⟩
  refine⟨B.dJ K,_,rfl,U (B.dJ K) 1,(rE S hd.1 (by rw[er];show v.dst<f.ak.length;omega) (by rw[eo];show v.dst<aR.length;omega) (1000+A) 1).mono ?_⟩
  rintro _ D ⟨G,I⟩
  refine⟨I.dJ (K.to B),aF,aS,aB,c,?_,(Z.trans B).trans I⟩
  have Y:=ec f.pc
  have ab:N.pc=f.pc+1:=ep
  have h8:({N with pc:=f.pc+1}:aY)=N:=by rw[<-ab]
  rw[h8]at Y
  have:fW z a b f v aR=nH a b {f with aR:=aR} v v.bQ:=by
   unfold fW nH;simp only[];rw[ae V,ae bd,ae V,an w];rfl
  rw[this]
  have h9:nH a b {f with aR:=aR} v v.bQ={a with heap:=ji a.heap A ⟨1,v.bQ,cL f v.args⟩,ao:=b++[aY.put N v.dst (1000+A) 1]}:=Y
  rw[h9];exact G.cO
 simp only[aj]at e6
 have F4:FP H c.D (c.off+b.length*6) {f with aR:=aR,pc:=f.pc+1} r t h:=y.fp ⟨by show f.ak.length<=_;omega,by show aR.length<=_;omega,by show f.ba.length<=_;omega⟩
 have b5:∀{bv:Value->E->Prop},(∀ws M,ap M ws (cL f v.args)->J H M->(cL f v.args≠[]->g ws.D=0)->bv (O.v ws) M)->aN cq 106 [vp c.D (c.off+b.length*6),O.v ak] H bv:=λhk=>by
  refine(vy F4.g3 F4.ak (ha.ext y.cO.cr) C.arg V).mono ?_;rintro _ W ⟨ws,rfl,ow,ai⟩;have cn:(cL f v.args).length=v.args.length:=by simp[cL]
  have iw:ap W ws (cL f v.args):=ap.gE (l:=cL f v.args) ow V;refine hk ws W iw ai λac=>?_;rcases ow.D with w|w
  .subst w;have:=iw.len;simp at this;exact absurd (List.length_eq_zero_iff.1 this.symm) ac
  .exact y.cO.new _ w
 have bg:(eT z.bo).length<=12:=by
  have:=rB C.ok.fm.nK.types z.bo.length;rw[mX _ _ (ad _)]at this;exact this
 have cA:0<=bW z/\bW z<=12:=by unfold bW;omega
 refine⟨λw=>?_,λbw=>?_⟩
 .simp only[aI]at w
  have ab:=C.lz.2.2.2.2.2.1 w
  refine⟨bW z,y.cO.box.cg 2,b5 λws W iw ai _=>?_⟩
  let⟨S,B⟩:=y.ext ai
  have A:=K.to B
  have N:=B.dJ K
  have Y:cQ (bW z+v.bQ)=bW z+v.bQ:=aQ V V
  refine⟨N,ws,rfl,U N 2,ai.da (y.cO.box.cg 2),U N 1,?_⟩
  rw[Y]
  refine(DO S (bW z+v.bQ) iw (by simp[cL];omega) V).mono ?_
  rintro _ D ⟨rfl,bz,bi,G,I⟩
  have aX:=I.dJ A
  refine⟨aX,_,rfl,U aX 1,bt (bZ:=bi) (ax:=ji a.heap (dG a.heap) ⟨1,bW z+v.bQ,cL f v.args⟩) G ((Z.trans B).trans I) (A.to I) _ _ _ ?_⟩
  unfold fW;simp only[];rw[ae V,ae bd,ae V,ae e6,an w]
 simp only[aj]at bw
 have Nj:fW z a b f v aR=(
  if v.op=14 then{a with heap:=mW a.heap (aH f.ak (aH v.args 0)),ao:=b++[{f with aR:=gV aR (aH v.args 0) (aH aR (aH v.args 0)+1),pc:=f.pc+1}]}
  else if v.op=15 then{a with heap:=nC (ig a.heap [aH f.ak (aH v.args 0)]),ao:=b++[{f with aR:=aR,pc:=f.pc+1}]}
  else if v.op=16\/v.op=17 then tG a b {f with aR:=aR} v
  else if v.op=18 then{a with ao:=b++[aY.put {f with aR:=aR,pc:=f.pc+1} v.dst (aH f.ak (aH v.args 0)) (gL (aH f.ak (aH v.args 0)))]}
  else if v.op=19 then{a with ao:=b++[aY.put {f with aR:=aR,pc:=f.pc+1} v.dst (aH (aM a.heap (aH f.ak (aH v.args 0))).aF v.bQ) 0]}
  else if v.op=20 then{a with ao:=b++[{f with aR:=aR,pc:=if aH f.ak (aH v.args 0)=0 then v.bQ else f.pc+1}]}
  else if v.op=22 then{a with ao:=b++[{f with aR:=aR,pc:=v.bQ}]}
  else if v.op=21 then{a with ao:=b++[{f with aR:=aR,pc:=aH v.eN (tA (cy z.bo v.bQ) (aM a.heap (aH f.ak (aH v.args 0))).km)}]}
  else if v.op=9\/v.op=24 then{a with bu:=a.bu+1,ao:=if v.op=24 then b++[bX z v.bQ f.dst (cL f v.args)]else b++[{f with aR:=aR,pc:=f.pc+1},bX z v.bQ v.dst (cL f v.args)]}
  else if v.op=11 then{a with bu:=a.bu+1,heap:=apart a.heap (aH f.ak (aH v.args 0)),ao:=b++[{f with aR:=aR,pc:=f.pc+1},bX z ((aM a.heap (aH f.ak (aH v.args 0))).km -bW z) v.dst ((aM a.heap (aH f.ak (aH v.args 0))).aF++[aH f.ak (aH v.args 1)])]}
  else match b.getLast? with|none=>{a with cB:=0,value:=aH f.ak (aH v.args 0),ao:=[]}|some aK=>{a with ao:=b.dropLast++[aK.put f.dst (aH f.ak (aH v.args 0)) (gL (aH f.ak (aH v.args 0)))]}):=by
  unfold fW
  simp only[]
  rw[ae V,ae bd,ae V,ae e6,ae bw]
  by_cases a0:v.op=14
  .rw[an a0,an a0]
  rw[ae a0,ae a0]
  by_cases a1:v.op=15
  .rw[an a1,an a1]
  rw[ae a1,ae a1]
  by_cases a2:v.op=16\/v.op=17
  .rw[an a2,an a2];rfl
  rw[ae a2,ae a2]
  by_cases a3:v.op=18
  .rw[an a3,an a3]
  rw[ae a3,ae a3]
  by_cases a4:v.op=19
  .rw[an a4,an a4]
  rw[ae a4,ae a4]
  by_cases a5:v.op=20
  .rw[an a5,an a5]
  rw[ae a5,ae a5]
  by_cases a6:v.op=21
  .rw[an a6,ae V,an a6]
  rw[ae a6]
  by_cases a7:v.op=22
  .rw[an a7,an a7]
  rw[ae a7,ae a7,ae a6]
  by_cases bc:v.op=9
  .rw[an bc,an (Or.inl bc),ae V]
  rw[ae bc]
  by_cases a8:v.op=24
  .rw[an a8,an (Or.inr a8),an a8]
  rw[ae a8,ae (show¬(v.op=9\/v.op=24)by omega)]
  by_cases aZ:v.op=11
  .rw[an aZ,an aZ]
  rw[ae aZ,ae aZ]
  cases b.getLast?<;>rfl
 rw[Nj]
 clear Nj
 refine⟨λw=>?_,λbA=>?_⟩
 .simp only[aI]at w
  rw[an w]
  have h2:=C.lz.2.1 V
  have A:=ay V
  let⟨ab,bC⟩:=hM.Xm w
  let⟨Y,a_⟩:=bS ab
  have aT:=aw Y
  have bn:=y.cO.heap.len
  have bl:=ab.1
  have az:ix (aH f.ak (aH v.args 0))=(aH f.ak (aH v.args 0) -1000).toNat:=rfl
  have e5:cQ (aH f.ak (aH v.args 0) -1000)=aH f.ak (aH v.args 0) -1000:=aQ V V
  have bj:cQ ((aM a.heap (aH f.ak (aH v.args 0))).aP+1)=(aM a.heap (aH f.ak (aH v.args 0))).aP+1:=aQ V V
  obtain⟨f0,k0,_⟩:=y.cO.heap.cg Y
  refine⟨j,y.cO.box.cg 8,r,ag y,V,V,_,ga y.cO.cr V,A.1,V,_,gr y A.1 A.2,?_⟩
  rw[e5,<-az]
  refine⟨V,V,_,k0,V,V,y.cO.heap.wr (o:=0) aT bh,?_⟩
  rw[bj]
  intro W
  let⟨bo,c5⟩:=y.cO.heap.rJ y.cO.new Y ((aM a.heap (aH f.ak (aH v.args 0))).aP+1)
  let⟨S,B⟩:=y.gF (c5.mono λL hk=>Or.inl hk) bo
  have aO:aH v.args 0<aR.length:=V
  have bD:0<=aH aR (aH v.args 0)/\aH aR (aH v.args 0)<=999999:=by
   refine⟨hM.nn _ (fA (l:=aR) A.1 aO),?_⟩;have hg:=oO (l:=aR) A.1 aO;rw[aG]at hg;let⟨qq,aP,be⟩:=k8 _ _ _ _ hg;have:=(C.O9 qq (aq aP)).2;rw[<-aG]at be;omega
  have e7:cQ (aH aR (aH v.args 0)+1)=aH aR (aH v.args 0)+1:=aQ V V
  refine⟨B.dJ K,t,S.fX.iE.2.2.2.2.1,V,V,_,ga S.cO.cr V,A.1,V,aH aR (aH v.args 0),(S.JK (by show aR.length<=_;omega)).pM A.1 aO,A.1,V,S.fX.aR.Oq A.1 aO,?_⟩
  rw[e7]
  intro D
  let⟨G,I⟩:=S.p7 A.1 aO (aH aR (aH v.args 0)+1)
  exact⟨I.dJ (K.to B),g,aS,j,c,G.cO,(Z.trans B).trans I⟩
 simp only[aj]at bA
 rw[ae bA]
 refine⟨λw=>?_,λbC=>?_⟩
 .simp only[aI]at w
  rw[an w]
  have h2:=C.lz.2.1 V
  have A:=ay V
  have bD:v.args=[aH v.args 0]:=by
   cases hx:v.args with
   |nil=>rw[hx]at h2;simp at h2
   |cons R aO=>cases aO with
    |nil=>rfl
    |cons bj aO=>rw[hx]at h2;simp at h2
  have bj:=C.HE aG hM.nn
  have ht:bU z v=[aH v.args 0]:=by unfold bU;rw[an V];exact bD
  have bo:=bj.1
  rw[ht]at bo
  refine⟨j,y.cO.box.cg 8,?_⟩
  intro W D
  let⟨G,I,kb⟩:=y.OY
  have R:yN (nE g H.size 5) D [m.size]:=K.to I
  replace G:ST q (nE g H.size 5) D k bB (IB d p (bW z) a aS j c) aS j c a.aS a.heap b {f with aR:=aR,pc:=f.pc+1} r t h u:=G
  replace I:To g H (nE g H.size 5) D:=I
  replace kb:cz D H.size eC [.s j]:=kb
  clear_value D
  refine⟨r,ag G,V,V,_,ga G.cO.cr V,A.1,V,_,gr G A.1 A.2,(Gm G.cO.heap G.cO.new kb (fg _ _ _) (W:=λP=>fE b P+de f.ak aR P) (bo.congr λP=>rfl) bj.2 V).mono ?_⟩
  rintro _ m7 ⟨bJ,aO,bH,bI,c7⟩
  let⟨S7,t7⟩:=G.gF c7 bH
  refine⟨t7.dJ R,aO,bI.cg 0,S7.cO.mz (i:=8) aL,?_⟩
  intro m8
  let⟨S8,t8⟩:=S7.jz 8 [.s aO]
  exact⟨t8.dJ (R.to t7),bJ,aS,aO,c,S8.cO,((Z.trans I).trans t7).trans t8⟩
 simp only[aj]at bC
 rw[ae bC]
 refine⟨λw=>?_,λb7=>?_⟩
 .simp only[bR,aI]at w
  rw[an w]
  refine(O0 y ha C.arg ⟨C.lz.2.2.2.1 w,bk⟩ bm V (λau hq=>?_) (hM.N4 w).1 C.ok.heap (show f.pc+1=f.pc+1 from rfl)).mono ?_
  .refine⟨hM.nn au hq,?_⟩
   let⟨L,hk⟩:=List.mem_iff_getElem?.1 hq
   simp only[]at hk
   rw[aG]at hk
   let⟨qq,aP,be⟩:=k8 _ _ _ _ hk
   have:=(C.O9 qq (aq aP)).2
   omega
  rintro _ W ⟨aF,aW,aB,aJ,L5,B⟩
  exact⟨B.dJ K,aF,aW,aB,aJ,L5,Z.trans B⟩
 simp only[br,aj]at b7
 rw[ae V]
 refine⟨λw=>?_,λbD=>?_⟩
 .simp only[aI]at w
  rw[an w]
  have h2:=C.lz.2.1 V
  have A:=ay V
  refine⟨r,ag y,V,V,_,ga y.cO.cr V,A.1,V,_,gr y A.1 A.2,(na _ _).mono ?_⟩
  rintro _ W ⟨rfl,ai⟩
  let⟨S,B⟩:=y.ext ai
  have N:=B.dJ K
  exact⟨N,_,rfl,U N 1,bt (ax:=a.heap) S (Z.trans B) (K.to B) _ _ _ rfl⟩
 simp only[aj]at bD
 rw[ae bD]
 refine⟨λw=>?_,λbH=>?_⟩
 .simp only[aI]at w
  rw[an w]
  have h2:=C.lz.2.1 V
  have A:=ay V
  let⟨ab,aO⟩:=hM.load w
  let⟨Y,a_⟩:=bS ab
  have aT:=aw Y
  have bn:=y.cO.heap.len
  have bl:=ab.1
  have az:ix (aH f.ak (aH v.args 0))=(aH f.ak (aH v.args 0) -1000).toNat:=rfl
  have e5:cQ (aH f.ak (aH v.args 0) -1000)=aH f.ak (aH v.args 0) -1000:=aQ V V
  obtain⟨f0,_,_,k2,kf,_⟩:=y.cO.heap.cg Y
  have aP:=kf.len
  unfold mh at al
  rw[ae V,ae V,ae V,ae V,ae V,ae V,ae V,an w]at al
  refine⟨j,y.cO.box.cg 8,r,ag y,V,V,_,ga y.cO.cr V,A.1,V,_,gr y A.1 A.2,?_⟩
  rw[e5,<-az]
  exact⟨V,V,f0,k2,al.2.1,V,_,kf.pM al.2.1 aO,bt (ax:=a.heap) y Z K _ _ _ rfl⟩
 simp only[aj]at bH
 rw[ae bH]
 refine⟨λw=>?_,λbI=>?_⟩
 .simp only[aI]at w
  rw[an w]
  have h2:=C.lz.2.1 V
  have A:=ay V
  refine⟨r,ag y,V,V,_,ga y.cO.cr V,A.1,V,_,gr y A.1 A.2,λT=>?_,λT=>?_⟩
  .simp at T;exact bf (J.az _) _ _ (by rw[an T])
  .simp at T;exact⟨g,aS,j,c,by rw[ae T];exact y.cO,Z⟩
 simp only[aj]at bI
 rw[ae bI]
 refine⟨λw=>?_,λbK=>?_⟩
 .simp only[aI]at w
  rw[an w]
  exact bf (J.az _) _ _ rfl
 simp only[aj]at bK
 rw[ae bK]
 refine⟨λw=>?_,λbJ=>?_⟩
 .simp only[aI]at w
  rw[an w]
  have h2:=C.lz.2.1 V
  have A:=ay V
  let⟨ab,bo⟩:=hM.FC w
  let⟨Y,a_⟩:=bS ab
  have aT:=aw Y
  have bn:=y.cO.heap.len
  have bl:=ab.1
  have az:ix (aH f.ak (aH v.args 0))=(aH f.ak (aH v.args 0) -1000).toNat:=rfl
  have e5:cQ (aH f.ak (aH v.args 0) -1000)=aH f.ak (aH v.args 0) -1000:=aQ V V
  obtain⟨f0,_,k1,_⟩:=y.cO.heap.cg Y
  unfold mh at al
  rw[ae V,ae V,ae V,ae V,ae V,ae V,ae V,ae V,ae V,ae V,an w]at al
  have bM:tA (cy z.bo v.bQ) (aM a.heap (aH f.ak (aH v.args 0))).km<(cy z.bo v.bQ).length:=um ⟨_,bo,aL⟩
  have bQ:=hj.len
  have bO:=al.2.2.1
  refine⟨j,y.cO.box.cg 8,r,ag y,V,V,_,ga y.cO.cr V,A.1,V,_,gr y A.1 A.2,?_⟩
  rw[e5,<-az]
  refine⟨V,V,_,k1,d,y.cO.box.cg 0,(tD (a9.ext y.cO.cr).bo C.ok.fm.nK.types v.bQ).mono ?_⟩
  rintro _ W ⟨cs,rfl,bL,ai⟩
  let⟨S,B⟩:=y.ext ai
  have N:=B.dJ K
  refine⟨N,cs,rfl,U N 5,(sG bL _).mono ?_⟩
  rintro _ D ⟨ri,rfl,aO,be⟩
  let⟨G,I⟩:=S.ext aO
  have aX:=I.dJ (K.to B)
  have bj:ri=tA (cy z.bo v.bQ) (aM a.heap (aH f.ak (aH v.args 0))).km:=by
   rcases be with⟨_,aP⟩|⟨_,he⟩
   .exact absurd bo aP
   .exact he
  subst bj
  exact⟨aX,_,rfl,U aX 5,V,V,_,(hj.ext G.cO.cr).pM V V,bf (ai.trans aO) _ _ rfl⟩
 simp only[aj]at bJ
 rw[ae bJ]
 have bO:0<=a.bu/\a.bu<=100000:=by
  have b_:=C.ok.bu;have cd:=C.ok.dT;omega
 have aX:=C.ok.fm
 refine⟨λw=>?_,λe9=>?_⟩
 .simp only[bR,aI]at w
  rw[an w]
  unfold mh at al
  rw[ae V,ae V,ae V,ae V,an w]at al
  let⟨au,be,aO,bM⟩:=al
  have ck:=(aX.dA au (aq aO)).ak
  have h3:=(aX.nK.dA au (aq aO)).1
  have cn:(cL f v.args).length=v.args.length:=by simp[cL]
  refine b5 λws W iw ai bj=>?_
  let⟨S,B⟩:=y.ext ai
  have N:=B.dJ K
  refine⟨N,ws,rfl,U N 0,U N 1,U N 2,U N 3,U N 4,U N 5,U N 2,(Gh S a9 be aO V iw bj V v ak aV V bO).mono ?_⟩
  rintro _ D ⟨bz,bL,bi,aP,L6,I⟩
  exact⟨I.dJ (K.to B),bz,bL,bi,aP,L6,(Z.trans B).trans I⟩
 simp only[br,aj]at e9
 rw[ae V]
 refine⟨λw=>?_,λbz=>?_⟩
 .simp only[aI]at w
  rw[an w]
  have h2:=C.lz.2.2.1 V
  have A:=ay V
  have bj:0<=aH v.args 1/\aH v.args 1<f.ak.length:=C.arg _ (fA V V)
  let⟨ab,cm,cT,cf,cc,cD⟩:=hM.apply w
  let⟨Y,a_⟩:=bS ab
  have bM:=C.ok.heap.cell _ (aq Y)
  have cE:=bM.fl
  have bo:=(bM.ph a_).2
  have aT:=aw Y
  have bn:=y.cO.heap.len
  have bl:=ab.1
  have az:ix (aH f.ak (aH v.args 0))=(aH f.ak (aH v.args 0) -1000).toNat:=rfl
  have e5:cQ (aH f.ak (aH v.args 0) -1000)=aH f.ak (aH v.args 0) -1000:=aQ V V
  let⟨f0,k0,k1,k2,kf,kr⟩:=y.cO.heap.cg Y
  refine⟨r,ag y,V,V,_,ga y.cO.cr V,A.1,V,_,gr y A.1 A.2,j,y.cO.box.cg 8,?_⟩
  rw[e5,<-az]
  generalize hw:aH f.ak (aH v.args 0)=F at*
  have gv:∀{g m bx aS j c lo ax t h u own' pc'},ST q g m k bB bx aS j c lo ax b {f with aR:=own',pc:=pc'} r t h u->af m r.D (r.off+Int.toNat (aH v.args 1)*1)=some (vi (aH f.ak (aH v.args 1))):=λaa=>gr aa bj.1 bj.2
  generalize hv:aH f.ak (aH v.args 1)=X at*
  let⟨au,hq⟩:=cG z.cF (((aM a.heap F).km -bW z).toNat)
  have ci:dO z ((aM a.heap F).km -bW z)=au:=by simp[dO,hq]
  rw[ci]at cf cc
  have ck:=(aX.dA au (aq hq)).ak
  have h3:=(aX.nK.dA au (aq hq)).1
  refine⟨V,V,_,k0,_,k1,f0,k2,?_⟩
  intro W D
  have bi:J H D:=((J.az H).aJ _).ah (ad _) _ _
  have s6:D.size=H.size+1:=by simp[D,W,av]
  let⟨G,I⟩:=y.ext bi
  clear_value D
  have R:yN g D [H.size,m.size]:=λP hb=>by
   simp at hb;rcases hb with rfl|rfl
   .exact⟨V,y.cO.new _ (ad _)⟩
   .exact K.to I _ aL
  have be:∀{M},J D M->af M ak.D (ak.off+Int.toNat (1:Int)*1)=some (vi (aH v.args 1)):=λhx=>(ha.ext (G.cO.cr.trans hx)).pM V V
  have ew:cQ ((aM a.heap F).km -bW z)=(aM a.heap F).km -bW z:=aQ V V
  have tail:∀{M:E}{es:O},J D M->gZ D M aA 1 es (((aM a.heap F).aF++[X]).map Ce.i)->
   aN cq 113 [vp k 0,vi F,vb false] M λcv Q=>eG [H.size,m.size] M Q/\∃cu:Bool,cv=vb cu/\∃b4:Int,af Q k (0+2)=some (vi b4)/\
    aN cq 112 [vp k 0,vi (cQ ((aM a.heap F).km -b4)),O.v es,xv v ak aV] Q λ_ b2=>eG [H.size,m.size] Q b2/\Ef q g m k d p (bW z) {a with bu:=a.bu+1,heap:=apart a.heap F,ao:=b++[{f with aR:=aR,pc:=f.pc+1},bX z ((aM a.heap F).km -bW z) v.dst ((aM a.heap F).aF++[X])]} b2:=λ{M}{es} hx oe=>by
   let⟨SM,tM⟩:=G.ext hx
   have BM:=R.to tM
   have ie:ap M es ((aM a.heap F).aF++[X]):=ap.gE oe bF
   have bT:es.D<M.size:=iJ ie aL
   have bQ:g es.D=0:=by
    rcases oe.D with w|w
    .subst w;have:=ie.len;simp at this
    .exact G.cO.new _ w
   refine(DP SM ab false C.ok.heap V).mono ?_
   rintro _ m8 ⟨P,rfl,_,cV,cN,S8,t8⟩
   have hK:rY a.heap F false=apart a.heap F:=by rw[rY,ae (sx)]
   rw[hK]at S8
   have cp:ap m8 es ((aM a.heap F).aF++[X]):=iU ie λ_=>t8.eA _ bT (by rw[bQ];decide)
   refine⟨t8.dJ BM,P,rfl,bW z,S8.cO.box.cg 2,?_⟩
   rw[ew]
   refine(Gh (s:={a with heap:=apart a.heap F}) S8 a9 cm hq V cp (λ_=>by rw[t8.gN _ bT];exact bQ) bF v ak aV V bO).mono ?_
   rintro _ m9 ⟨cw,cs,ce,b8,L9,t9⟩
   refine⟨t9.dJ (BM.to t8),cw,cs,ce,b8,?_,(((Z.trans I).trans tM).trans t8).trans t9⟩
   rw[ae V]at L9
   exact L9
  refine⟨r,ag G,V,V,_,be (J.az _),bj.1,V,X,gv G,?_,?_⟩
  .refine(eO (kf.ext bi) V).mono ?_
   rintro _ m7 ⟨cl,rfl,oc,N⟩
   let⟨S7,t7⟩:=G.ext N
   have B7:=R.to t7
   refine⟨t7.dJ R,cl,rfl,N.da (gv G),N.da (be (J.az _)),aE (N.same m.size (R _ aL).1) 4,N.da (ag G),?_⟩
   intro m8
   have S:J m7 m8:=(J.az m7).aJ _
   refine⟨aE (S.same H.size (B7 _ aL).1) 2,nZ oc N V λes m9 o9 aO=>⟨?_,tail aO o9⟩⟩
   intro P hb
   have aP:=(R P hb).1
   rw[aO.same P aP,S.same P (oh N.size),N.same P aP]
  .intro m7
   have N:J D m7:=(J.az D).aJ _
   have s7:m7.size=D.size+1:=by simp[m7]
   have jx:fS m7 D.size 0 [.i X]:=(cz.push D _ _).iE
   have b9:cz m7 D.size aA [.i X]:=cz.push D _ _
   clear_value m7
   let⟨S7,t7⟩:=G.ext N
   have B7:=R.to t7
   refine⟨aE (N.same H.size (R _ aL).1) 2,(eO (kf.ext (bi.trans N)) V).mono ?_⟩
   rintro _ m8 ⟨cl,rfl,oc,S⟩
   let⟨S8,t8⟩:=S7.ext S
   have cC:cl.len=(aM a.heap F).aF.length:=by have:=oc.len;simp at this;omega
   refine⟨t8.dJ B7,cl,rfl,S.da (gv S7),S.da (be N),aE (S.same m.size (B7 _ aL).1) 4,S.da (ag S7),?_⟩
   have bL:=N.trans S
   refine gZ.append (zs:=[.i 0]) (x:=.mk D.size 0 1 1) (d:=[.i X]) (oc.cr V) bL rfl (b9.ext S).iE (by simp only[O.gJ];omega) λes m9 o9 aO _ _ _ _=>⟨?_,tail aO (by simpa using o9)⟩
   intro P hb
   have aP:=(R P hb).1
   rw[aO.same P aP,bL.same P aP]
 simp only[aj]at bz
 rw[ae bz]
 refine⟨λw=>?_,λI=>?_⟩
 .simp only[aI]at w
  have h2:=C.lz.2.1 V
  have A:=ay V
  refine⟨r,ag y,V,V,_,ga y.cO.cr V,A.1,V,_,gr y A.1 A.2,(Ie y V (aH f.ak (aH v.args 0)) (λaK hg=>?_)).mono ?_⟩
  .have ac:b≠[]:=λw=>by rw[w]at hg;simp at hg
   have D:b=b.dropLast++[aK]:=by
    rw[gH ac]at hg;simp at hg;rw[<-hg];exact(fw ac).symm
   have N:b.length=b.dropLast.length+1:=by
    have:=oA List.length D;simpa using this
   let⟨R,S,Y⟩:=C.ok.chain b.dropLast.length aK f (by rw[C.fr,D];simp) (by rw[C.fr,<-N];simp)
   have G:=C.ok.ao aK (by rw[C.fr,D];simp)
   have:=G.lr
   have:=G.lo
   exact⟨R,by show f.dst<_;omega,by show f.dst<_;omega⟩
  rintro _ W ⟨aF,aW,aB,aJ,L5,B⟩
  exact⟨B.dJ K,aF,aW,aB,aJ,L5,Z.trans B⟩
 simp only[aj]at I
 have:=C.ZD
 omega
end
end
section
section
variable{f:E}{e:Nat->Nat}{m:E}{b:Nat}{d p aS c a:O}{s:St}
def Gs{h:cR}(L:vt f e m b bB (IB d p (bW h) s aS c a) aS c a s.aS s.heap s.ao)(z:fj f d p h)(u:cX h s)(aw:∀t∈s.ao,∀w∈t.ak,w<=9223372036854775807)(ay:s.heap.length<=900000000)(aB:s.aS.length<=900000000):
 aN cq 33 [vp b 0] m λ_ I=>Ef f e m b d p (bW h) (nM h s) I:=by
 apply wm (b,0)
 simp -zeta only[aD,aC]
 refine⟨s.cB,L.box.cg 3,λy=>?_,λy=>?_⟩
 .simp at y
  rw[td y]
  exact⟨e,aS,c,a,L,dm.az _ L.new⟩
 have G:s.cB=3:=by simpa using y
 let⟨k,g,r⟩:=u.split G
 have az:s.ao.getLast?=some g:=by rw[r];simp
 have au:s.ao.dropLast=k:=by rw[r];simp
 have C:zR h s k g (eI h g):=⟨u,G,r,rfl,aw⟩
 have aH:nM h s=(open Classical in if ng (eI h g).op/\s.bu=s.dT then{s with cB:=1}else if lx h s g (eI h g) (bE g.ak g.aR (bU h (eI h g)))then fW h s k g (eI h g) (bE g.ak g.aR (bU h (eI h g)))else{s with cB:=2}):=by
  unfold nM;rw[ae (by simpa using G),az,au]
 rw[aH]
 generalize eI h g=x at*
 have N:vt f e m b bB (IB d p (bW h) s aS c a) aS c a s.aS s.heap (k++[g]):=by rw[<-r];exact L
 let⟨aj,ai,W,ak,T⟩:=N.ao.fX
 have S:ST f e m b bB (IB d p (bW h) s aS c a) aS c a s.aS s.heap k g aj ai W ak:=⟨N,T⟩
 have aO:=T.yw
 have ab:=u.depth
 have aM:=u.bu
 have aT:=u.dT
 rw[r]at ab
 have aP:k.length<=1000:=by simp at ab;omega
 have e1:cQ ((a.len:Int) -1)=(k.length:Int):=by rw[aQ V V];omega
 have e2:Int.toNat (k.length:Int)=k.length:=V
 have U:af m b 9=some (O.v a):=S.cO.box.cg 9
 obtain⟨R,g1,_,_,_,_⟩:=T.iE
 let⟨aY,hq,aF,hP,aq,hI⟩:=C.I
 let⟨pa,pl,pc,aU,aW,ag,k0,k1,k2,k3,k4⟩:=z.cF.aH hq
 let⟨F,H,Y,hj,i0,i1,i2,i3,i4,i5⟩:=ag.aH aq
 have aX:=z.cF.len
 have aV:=ag.len
 have X:=C.F
 have aE:=X.fI
 have ac:=X.pc
 rw[aF]at ac
 have l:=S.cO.cr
 refine⟨a,U,a,U,?_⟩
 rw[e1,e2]
 refine⟨V,V,p,S.cO.box.cg 1,_,R,aE.1,V,pc,l.af k4,_,g1,ac.1,V,_,l.af i0,_,l.af i1,_,l.af i2,_,l.af i3,F,l.af i4,H,l.af i5,?_⟩
 intro m1
 have o:J m m1:=(J.az m).aJ _
 refine⟨o.da (l.af i0),o.da (l.af i1),o.da (l.af i2),o.da (l.af i3),o.da (l.af i4),o.da (l.af i5),o.da g1,o.da (l.af k4),o.da R,o.da (S.cO.box.cg 1),?_⟩
 intro n
 have aI:J m n:=o.ah (ad _) _ _
 have s2:n.size=m.size+1:=by simp[n,m1,av]
 let⟨j,t2⟩:=S.ext aI
 have A:yN e n [m.size]:=λP l=>by simp at l;subst l;exact⟨V,S.cO.new _ (ad _)⟩
 clear_value n
 have aR:=C.Gy
 have aG:({s with ao:=k++[g]}:St)=s:=by rw[<-r]
 have ax:jB n a (k++[g]):=j.cO.ao.zd bF (λt w=>by
  have q:=u.ao t (by rw[r];exact w);obtain⟨Q,_,B,v,_⟩:=q.JB u.fm;have D:=q.lr;have K:=q.lo;have M:=q.lh;rw[B]at D K M;have:=v.ak;omega)
 have am:RV n b 3 d p aS c a h s:=by
  have:RV n b 3 d p aS c a h {s with ao:=k++[g]}:=⟨z.ext j.cO.cr,j.cO.box.cg 0,j.cO.box.cg 1,j.cO.box.cg 3,j.cO.box.cg 4,j.cO.box.cg 5,j.cO.box.cg 6,j.cO.box.cg 7,j.cO.box.cg 8,j.cO.box.cg 9,j.cO.aS.nV V,j.cO.heap.cells V,ax⟩;rw[aG]at this;exact this
 have F2:FP n a.D (a.off+k.length*6) g aj ai W:=j.fp ⟨V,V,V⟩
 have jR:¬(ng x.op/\s.bu=s.dT)->aN cq 59 [vp b 0,vp a.D (a.off+k.length*6),xv x F H] n λaJ v=>
  eG [m.size] n v/\∃K:Bool,aJ=vb K/\
  ((!K)=true->fN v b (0+3) 1/\let q:E:=ah v b (0+3) [.i (2:Int)]
   eG [m.size] v q/\Ef f e m b d p (bW h) (open Classical in if ng x.op/\s.bu=s.dT then{s with cB:=1}else if lx h s g x (bE g.ak g.aR (bU h x))then fW h s k g x (bE g.ak g.aR (bU h x))else{s with cB:=2}) q)/\
  ((!K)=false->aN cq 60 [vp b 0,vp a.D (a.off+k.length*6),xv x F H] v λt q=>
   eG [m.size] v q/\Ef f e m b d p (bW h) (open Classical in if ng x.op/\s.bu=s.dT then{s with cB:=1}else if lx h s g x (bE g.ak g.aR (bU h x))then fW h s k g x (bE g.ak g.aR (bU h x))else{s with cB:=2}) q):=λaA=>by
  refine(Qa am (j.cO.box.cg 2) C F2 (Y.ext j.cO.cr) V).mono ?_
  rintro _ m3 ⟨P,rfl,Z,al⟩
  let⟨B,t3⟩:=j.ext al
  have M:=A.to t3
  rw[ae aA]
  refine⟨t3.dJ A,P,rfl,λq=>?_,λq=>?_⟩
  .rw[ae (nb Z q)]
   refine⟨B.cO.mz (i:=3) aL,?_⟩
   intro m4
   let⟨D,t⟩:=B.jz 3 [.i 2]
   refine⟨t.dJ M,e,aS,c,a,?_,(t2.trans t3).trans t⟩
   have:=D.cO
   rw[<-r]at this
   exact this
  .have w:=yb Z q
   rw[an w]
   refine(Rh C rfl w B z Y hj ay aB).mono ?_
   rintro _ m4 ⟨aK,ar,ap,aa,Q,t⟩
   exact⟨t.dJ M,aK,ar,ap,aa,Q,(t2.trans t3).trans t⟩
 refine⟨λQ I=>I=n/\(Q=true<->ng x.op),⟨λq=>⟨rfl,by simp at q;simp[ng,q]⟩,λq=>⟨λw=>⟨rfl,by simp at w;simp[ng,w]⟩,λw=>⟨rfl,by simp at q w;simp[ng,q,w]⟩⟩⟩,?_⟩
 rintro Q m3 ⟨rfl,aa⟩
 refine⟨λar=>⟨s.bu,j.cO.box.cg 5,s.dT,j.cO.box.cg 6,λw=>?_,λw=>?_⟩,λap=>?_⟩
 .simp at w
  refine⟨j.cO.mz (i:=3) aL,?_⟩
  intro m4
  let⟨D,t⟩:=j.jz 3 [.i 1]
  refine⟨t.dJ A,e,aS,c,a,?_,t2.trans t⟩
  rw[an ⟨aa.1 ar,w⟩]
  have:=D.cO
  rw[<-r]at this
  exact this
 .simp at w
  exact jR λt=>w t.2
 .exact jR λt=>by have:=aa.2 t.1;rw[ap]at this;simp at this
end
def Om(c:cR):∀(a b:Nat)(s:St),aB c (a+b) s=aB c b (aB c a s)
 |0,b,s=>by simp[aB]
 |a+1,b,s=>by rw[Nat.succ_add];simp only[aB];exact Om c a b _
end
end Go.Proofs.YtkoifinbblcbiaaGreat
section
namespace Go.Vc
def wa{m:E}{b o:Nat}{v:Value}(h:(af m b o).isSome=true):af (rI m b o v) b o=some v:=by
 unfold af at h⊢;simp only[rI,lK,MO];cases d:m[b]? with
 |none=>rw[d]at h;simp at h
 |some f=>
  rw[d]at h;cases f with
  |cells c g i=>
   simp only[]at h;have e:o<c.size:=by
    rcases aW o c.size with a|a
    .exact a
    .rw[Jr a]at h;simp at h
   simp[e]
  |_=>simp at h
def Lm{m:E}{c o a b:Nat}{v:Value}(h:a≠c\/b≠o):af (rI m c o v) a b=af m a b:=by
 by_cases d:a=c
 .subst d;have e:b≠o:=by rcases h with h|h;exact absurd rfl h;exact h
  unfold af;simp only[rI,lK,MO];cases d:m[a]? with
  |none=>rfl
  |some f=>
   cases f with
   |cells g i j=>simp[kH e]
   |_=>rfl
 .exact aE (Mc _ _ _ _ d) _
def Q7(m:E)(c o:Nat)(v:Value)(a d:Nat):vZ (rI m c o v) a d=vZ m a d:=by
 by_cases b:a=c
 .subst b;unfold vZ;simp only[rI,lK,MO];cases b:m[a]? with
  |none=>rfl
  |some e=>
   cases e with
   |cells f g h=>rfl
   |_=>rfl
 .unfold vZ;rw[Mc _ _ _ _ b]
structure UO(m:E)(k:Int)(pos:List (Nat×Nat))(m':E):Prop where
 size:m.size<=m'.size
 D:∀b,b<m.size->(∀p∈pos,p.1≠b)->m'[b]? =m[b]?
 cell:∀b o,b<m.size->(b,o)∉pos->af m' b o=af m b o
 vZ:∀b o,b<m.size->Vc.vZ m' b o=Vc.vZ m b o
 int:∀p∈pos,∃n,af m' p.1 p.2=some (vi n)
 val:pos.Nodup->∀(j:Nat)(p:Nat×Nat),pos[j]? =some p->af m' p.1 p.2=some (vi (k+j))
def UO.nil{m c:E}(h:J m c)(k:Int):UO m k [] c:=
 ⟨h.size,λb a _=>h.same b a,λb o a _=>aE (h.same b a) o,λb o a=>by unfold Vc.vZ;rw[h.same b a],aL,aL⟩
def UO.lO{m:E}{b o:Nat}(h:(af m b o).isSome=true)(k:Int):UO m k [(b,o)] (ah m b o [.i k]):=by
 refine⟨uq (av _ _ _ _).symm,λc f d=>bd _ _ _ _ λe=>d (b,o) aL e.symm,λc q f d=>?_,λc q f=>Q7 _ _ _ _ _ _,λp a=>?_,λ_ j p a=>?_⟩
 .refine Lm ?_;by_cases e:c=b
  .right;intro g;subst e;subst g;simp at d
  .exact Or.inl e
 .simp at a;subst a;exact⟨k,wa h⟩
 .cases j with
  |zero=>
   simp at a;subst a;have e:k+((0:Nat):Int)=k:=V;rw[e];exact wa h
  |succ j=>simp at a
def UO.trans{m l n:E}{k:Int}{e p2:List (Nat×Nat)}(h:UO m k e l)(g:UO l (k+e.length) p2 n):UO m k (e++p2) n:=by
 have v:=h.size;refine⟨bJ h.size g.size,λc f b=>?_,λc o f b=>?_,λc o f=>?_,λp a=>?_,λhd j p a=>?_⟩
 .rw[g.D c V λp a=>b p (eE _ a),h.D c f λp a=>b p (bK _ a)]
 .rw[g.cell c o V λa=>b (eE _ a),h.cell c o f λa=>b (bK _ a)]
 .rw[g.vZ c o V,h.vZ c o f]
 .by_cases i:p∈p2
  .exact g.int p i
  .have d:p∈e:=by rcases List.mem_append.1 a with d|d;exact d;exact absurd d i
   let⟨q,b⟩:=h.int p d;exact⟨q,by rw[g.cell p.1 p.2 (lC b) i];exact b⟩
 .let⟨i,r,s⟩:=List.nodup_append.1 hd;by_cases u:j<e.length
  .rw[ax u]at a;have d:p∈e:=iB a;let⟨q,b⟩:=h.int p d;rw[g.cell p.1 p.2 (lC b) λt=>s p d p t rfl];exact h.val i j p a
  .rw[aK V]at a;have:=g.val r _ p a;have d:k+(e.length:Int)+((j -e.length:Nat):Int)=k+j:=V;rw[d]at this;exact this
inductive UP where
 |nil
 |int (r:UP)
 |sl (e r:UP)
def UP.size:UP->Nat
 | .nil=>0
 | .int r=>r.size+1
 | .sl _ r=>r.size+1
inductive TA where
 |iE (r:UP)
 |Ix (e:UP) (n:Nat)
inductive vX(m:E):TA->Nat->Nat->List (Nat×Nat)->Prop where
 |nil (b o:Nat):vX m (.iE .nil) b o []
 |int {b o:Nat} {r:UP} {p:List (Nat×Nat)} {n:Int} (h:af m b o=some (vi n)) (hf:Vc.vZ m b o=false) (hr:vX m (.iE r) b (o+1) p):vX m (.iE (.int r)) b o ((b,o)::p)
 |sl {b o:Nat} {e r:UP} {p1 p2:List (Nat×Nat)} {s:O} (h:af m b o=some (O.v s)) (hl:s.len<=9223372036854775807) (he:vX m (.Ix e s.len) s.D s.off p1) (hr:vX m (.iE r) b (o+1) p2):vX m (.iE (.sl e r)) b o (p1++p2)
 |zero (e:UP) (b o:Nat):vX m (.Ix e 0) b o []
 |succ {b o n:Nat} {e:UP} {p1 p2:List (Nat×Nat)} (he:vX m (.iE e) b o p1) (hr:vX m (.Ix e n) b (o+e.size) p2):vX m (.Ix e (n+1)) b o (p1++p2)
def vX.nV{m:E}{K:TA}{f o:Nat}{e:List (Nat×Nat)}(h:vX m K f o e):∀p∈e,∃n,af m p.1 p.2=some (vi n):=by
 induction h with
 |nil=>simp
 |int h c d b=>
  intro p a;rcases List.mem_cons.1 a with rfl|a
  .exact⟨_,h⟩
  .exact b p a
 |sl h i g d b c=>
  intro p a;rcases List.mem_append.1 a with a|a
  .exact b p a
  .exact c p a
 |zero=>simp
 |succ g d b c=>
  intro p a;rcases List.mem_append.1 a with a|a
  .exact b p a
  .exact c p a
def vX.lt{m:E}{K:TA}{b o:Nat}{a:List (Nat×Nat)}(h:vX m K b o a):∀p∈a,p.1<m.size:=λp d=>let⟨_,c⟩:=h.nV p d;lC c
def UE(n:Int)(s:O):vi n≠O.v s:=by cases s<;>simp[vi,O.v]
def vX.aaa{m j:E}{u:Int}{q:List (Nat×Nat)}(g:UO m u q j)(t:∀p∈q,∃n,af m p.1 p.2=some (vi n)){K:TA}{b o:Nat}{k:List (Nat×Nat)}(h:vX m K b o k):vX j K b o k:=by
 induction h with
 |nil=>exact .nil _ _
 | @int b o v p n h d i e=>
  have a:=lC h;by_cases c:(b,o)∈q
  .let⟨l,f⟩:=g.int _ c;exact .int f (by rw[g.vZ b o a];exact d) e
  .exact .int (by rw[g.cell b o a c];exact h) (by rw[g.vZ b o a];exact d) e
 | @sl b o w v x p2 l h r p i d e=>
  have a:=lC h;refine .sl (s:=l) ?_ r d e;rw[g.cell b o a λc=>?_]
  .exact h
  .let⟨n,f⟩:=t _ c;rw[h]at f;exact UE n l (jO f).symm
 |zero=>exact .zero _ _ _
 |succ p i d e=>exact .succ d e
def vX.ext{m a:E}(d:J m a){K:TA}{b o:Nat}{c:List (Nat×Nat)}(h:vX m K b o c):vX a K b o c:=h.aaa (UO.nil d 0) aL
end Go.Vc
namespace Go.Proofs.YtkoifinbblcbiaaGreat
open Go.Vc
end Go.Proofs.YtkoifinbblcbiaaGreat
end
namespace Go.Proofs.YtkoifinbblcbiaaGreat
open Go.Vc
section
section
variable{m:E}{s t:O}{l r:List Int}
def kT(f:ap m s l)(i:ap m t r):dt cq 16 [O.v s,O.v t] m (l=r):=by
 apply Ax;have o:=f.len;have v:=i.len;refine⟨λh=>bV (λe=>?_) (J.az _),λh=>?_⟩
 .subst e;simp at h;omega
 .have u:l.length=r.length:=by simp at h;omega
  refine dV (n:=l.length) (o▸f.gX) (λk a=>J m a/\l.take k=r.take k) ⟨J.az _,aL⟩ ?_;rintro k w I μ q ⟨b,d⟩ p
  refine dit (λj=>?_) λj=>?_
  .let⟨y,g⟩:=cG l k;let⟨z,c⟩:=cG r k;refine⟨V,V,y,by simpa using b.af (f.aH g),V,V,z,by simpa using b.af (i.aH c),λa=>bV (λe=>?_) b,λa=>p V _ ⟨b,?_⟩⟩
   .subst e;rw[g]at c;simp at c a;exact a c
   .simp at a;rw[aU g,aU c,d,a]
  .rw[bY V,bY V]at d;exact iS d b
end
section
variable{m:E}{b P:Nat}{a:O}{S:List Nat}
def Ju.ext{a:E}{dq:O}(h:Ju m dq)(x:J m a):Ju a dq:=⟨h.1,λk d=>let⟨v,b,c,g⟩:=h.2 k d;⟨v,b,c,x.af g⟩⟩
end
end
section
variable{n b:Nat}{f:Nat->Int}{d:cR}{s:St}
def tf(n:Nat)(f:Nat->Int):List Int:=(List.range n).map f
def oH(n:Nat)(f:Nat->Int):(tf n f).length=n:=by simp[tf]
def vm(h:b<n):(tf n f)[b]? =some (f b):=by
 unfold tf;rw[cJ,Nz h];rfl
def fF{g:Nat->Int}(h:∀b,b<n->f b=g b):tf n f=tf n g:=by
 unfold tf;exact List.map_congr_left λb a=>h b (List.mem_range.1 a)
def Ss(v:Int):(tf n f).set b v=tf n (λa=>if a=b then v else f a):=by
 apply gY;intro i;by_cases a:i<n
 .rw[vm a];by_cases e:b=i
  .subst e;rw[dy (by rw[oH];exact a),an rfl]
  .rw[cv e,vm a,ae (λh=>e h.symm)]
 .rw[cN (by rw[eg,oH];omega),cN (by rw[oH];omega)]
def Th(n:Nat):tf n (λ_=>0)=dj n:=by
 unfold tf dj;rw[List.map_const'];simp
structure OB(h:List bN):Prop where
 jC:oE h
 cells:∀c∈h,oK h c
 eu:∀(b:Nat)(c:bN),h[b]? =some c->0<c.aP->eu h b<=c.aP
 MQ:Tq h
structure HT(h:List bN)(f:aY):Prop where
 dA:∀(k:Nat)(w o:Int),f.ak[k]? =some w->f.aR[k]? =some o->(gR w\/1000<=w)/\(0<=o/\o<=999999)/\(0<o->gB h w)
structure KM(d:cR)(h:List bN)(prev:Option aY)(f:aY):Prop where
 fI:0<=f.fI/\f.fI<d.cF.length
 pc:0<=f.pc/\f.pc<(dO d f.fI).dq.length
 lr:(f.ak.length:Int)=(dO d f.fI).ak
 lo:(f.aR.length:Int)=(dO d f.fI).ak
 lh:(f.ba.length:Int)=(dO d f.fI).ak
 ak:HT h f
 first:prev=none->f.dst=0
 next:∀p,prev=some p->0<=f.dst/\f.dst<p.aR.length/\aH p.aR f.dst=0
def nJ(a:List aY):Nat->Option aY
 |0=>none
 |k+1=>a[k]?
structure OC(h:List bN)(fs:List aY):Prop where
 cL:∀f∈fs,∀w∈f.ba,w=0\/(1000<=w/\ix w<h.length)
 lj:∀(i:Nat)(c:bN),h[i]? =some c->c.aP<0->dH fs i=1
 nt:∀(i:Nat)(c:bN),h[i]? =some c->0<=c.aP->dH fs i=0
structure NI(d:cR)(s:St):Prop where
 fm:nv d
 cB:0<=s.cB/\s.cB<=3
 done:s.cB=0<->s.ao=[]
 value:gR s.value
 ug:s.value≠0->s.cB=0
 dT:0<=s.dT/\s.dT<=40
 bu:0<=s.bu/\s.bu<=s.dT
 depth:(s.ao.length:Int)<=s.bu+1
 aS:∀n∈s.aS,gR n
 heap:OB s.heap
 ao:∀(k:Nat)(f:aY),s.ao[k]? =some f->KM d s.heap (nJ s.ao k) f
 ba:OC s.heap s.ao
 Q3:∀(b:Nat)(c:bN),s.heap[b]? =some c->0<c.aP->c.aP=eu s.heap b+fE s.ao b
def Qg:∀{c:List aY}{b:Nat},0<fE c b->∃f∈c,0<de f.ak f.aR b
 |[],b,h=>by simp[fE]at h
 |f::c,b,h=>by
  simp only[fE]at h;by_cases d:0<de f.ak f.aR b
  .exact⟨f,aL,d⟩
  .let⟨g,e,i⟩:=Qg (c:=c) (b:=b) V;exact⟨g,by simp[e],i⟩
def Ob:∀{ak aR:List Int}{b:Nat},0<de ak aR b->∃(k:Nat)(o:Int),ak[k]? =some (1000+(b:Int))/\aR[k]? =some o/\0<o
 |[],aR,b,h=>by simp[de]at h
 |_::_,[],b,h=>by simp[de]at h
 |r::i,o::g,b,h=>by
  simp only[de]at h;by_cases a:r=1000+(b:Int)/\0<o
  .exact⟨0,o,by simp[a.1],rfl,a.2⟩
  .have:0<de i g b:=by
    split at h
    .rename_i e;have:¬0<o:=λc=>a ⟨e,c⟩;omega
    .omega
   let⟨k,f,c,d,e⟩:=Ob this;exact⟨k+1,f,by simpa using c,by simpa using d,e⟩
def Vu{a:List aY}{f:aY}(c:f∈a)(d:∀g∈a,0<=de g.ak g.aR b):de f.ak f.aR b<=fE a b:=by
 induction a with
 |nil=>simp at c
 |cons g a i=>
  have m:0<=fE a b:=by
   clear i c;induction a with
   |nil=>simp[fE]
   |cons q a j=>
    have k:=d q aL;have l:=j (λx e=>d x (by simp at e⊢;rcases e with h|h;exact Or.inl h;exact Or.inr (Or.inr h)));simp only[fE];omega
  simp only[fE];rcases List.mem_cons.1 c with rfl|c
  .omega
  .have:=i c λx e=>d x (by simp[e]);have:=d g aL;omega
def Us{a:List aY}(c:∀g∈a,0<=de g.ak g.aR b):0<=fE a b:=by
 induction a with
 |nil=>simp[fE]
 |cons q a e=>
  have f:=c q aL;have g:=e λx d=>c x (by simp[d]);simp only[fE];omega
def P9{a:List aY}{f:aY}(c:f∈a):eB f.ba b<=dH a b:=by
 induction a with
 |nil=>simp at c
 |cons g a d=>
  simp only[dH];rcases List.mem_cons.1 c with rfl|c
  .have:=wc a b;omega
  .have:=d c;have:=iG g.ba b;omega
def Lv{a:List aY}(h:∀f∈a,∀w∈f.ba,w≠1000+(b:Int)):dH a b=0:=by
 induction a with
 |nil=>rfl
 |cons g a e=>
  simp only[dH];rw[e λf c=>h f (by simp[c]),nY λd=>h g aL _ d rfl];rfl
def wy{a:List aY}{f:aY}(h:f∈a):∃k:Nat,a[k]? =some f:=List.mem_iff_getElem?.1 h
def MB(h:NI d s):cX d s:=by
 have r:∀f∈s.ao,∃p,KM d s.heap p f:=λf c=>let⟨k,g⟩:=wy c;⟨_,h.ao k f g⟩;have z:∀b,∀j∈s.ao,0<=de j.ak j.aR b:=λb j t=>by
  let⟨p,a⟩:=r j t;refine tH (λo l=>?_) b;let⟨k,g⟩:=List.mem_iff_getElem?.1 l;have u:=aw g;have e:=a.lr;have q:=a.lo;let⟨w,i⟩:=cG j.ak k;exact(a.ak.dA k w o i g).2.1.1
 refine⟨h.fm,h.cB,h.done,h.value,h.ug,h.dT,h.bu,h.depth,h.aS,⟨h.heap.cells,h.heap.MQ,h.Q3,λb=>Us (z b),λb y=>?_⟩,h.heap.jC,λf c=>?_,λf c=>(h.ao 0 f c).first rfl,λk f j c t=>(h.ao (k+1) j t).next f c,λb⟨m,n,v⟩=>h.ba.lj b m n v,λb g=>?_⟩
 .let⟨f,c,a⟩:=Qg y;let⟨k,o,e,q,x⟩:=Ob a;let⟨p,a⟩:=r f c;have:=((a.ak.dA k _ o e q).2.2 x).2;rwa[lD]at this
 .let⟨p,a⟩:=r f c;refine⟨a.fI,a.pc,a.lr,a.lo,a.lh,λw i=>?_,λk o w l i=>?_,λw i=>?_⟩
  .let⟨k,g⟩:=List.mem_iff_getElem?.1 i;have u:=aw g;have e:=a.lr;have q:=a.lo;let⟨o,l⟩:=cG f.aR k;exact(a.ak.dA k w o g l).1
  .have:=a.ak.dA k w o i l;exact⟨this.2.1.1,λx=>(this.2.2 x).1⟩
  .rcases h.ba.cL f c w i with e|e
   .exact Or.inl e
   .exact Or.inr e.1
 .rcases aW b s.heap.length with u|A
  .let⟨m,n⟩:=dC u;refine h.ba.nt b m n (Int.not_lt.1 λv=>g ⟨m,n,v⟩)
  .refine Lv λf c w i x=>?_;rcases h.ba.cL f c w i with e|e
   .omega
   .have:=e.2;rw[x,lD]at this;omega
def ON(h:cX d s):NI d s:=by
 have E:∀b,∀p∈s.ao,0<=de p.ak p.aR b:=λb p D=>tH (h.ao p D).Qf b;have y:∀f∈s.ao,∀(k:Nat)(w o:Int),f.ak[k]? =some w->f.aR[k]? =some o->0<o->gB s.heap w/\o<=999999:=λf g k w o i n q=>by
  have m:=((h.ao f g).aR k o w n i).2 q;have A:=iy m;have B:=LQ (h.ao f g).Qf i n (d:=ix w) A.symm;have C:=Vu g (E (ix w));have x:=h.heap.lv (ix w) V;let⟨j,e,c⟩:=x;have I:=h.heap.ex _ j e c;have J:=rm s.heap (ix w);have K:=(h.heap.cell j (aq e)).hi;exact⟨⟨m,j,e,c⟩,V⟩
 refine⟨h.fm,h.cB,h.done,h.value,h.ug,h.dT,h.bu,h.depth,h.aS,⟨h.jC,h.heap.cell,λb j e c=>?_,h.heap.MQ⟩,λk f g=>?_,⟨λf g w i=>?_,λu j e z=>h.lj u ⟨j,e,z⟩,λu j e z=>h.nt u λ⟨H,r,L⟩=>?_⟩,h.heap.ex⟩
 .have:=h.heap.ex b j e c;have:=h.heap.nn b;omega
 .have t:=aq g;have F:=h.ao f t;refine⟨F.fI,F.pc,F.lr,F.lo,F.lh,⟨λv w o i n=>⟨F.Sp w (aq i),⟨(F.aR v o w n i).1,?_⟩,λc=>(y f t v w o i n c).1⟩⟩,λc=>?_,λG c=>?_⟩
  .rcases Js 0 o with q|q
   .exact(y f t v w o i n q).2
   .omega
  .cases k with
   |zero=>exact h.first f g
   |succ k=>
    simp only[nJ]at c;have:=aw g;rw[List.getElem?_eq_none_iff]at c;omega
  .cases k with
   |zero=>simp[nJ]at c
   |succ k=>exact h.chain k G f c g
 .rcases(h.ao f g).ba w i with m|m
  .exact Or.inl m
  .refine Or.inr ⟨m,Nat.lt_of_not_le λt=>?_⟩;have B:=h.nt (ix w) λ⟨j,e,_⟩=>by have:=aw e;omega
   have C:=P9 g (b:=ix w);have x:=uW (l:=f.ba) (f:=ix w) (by rw[iy m];exact i);omega
 .rw[e]at r;simp at r;subst r;omega
end
section
variable{M d:E}{b e a:Nat}{f:Nat->Int}{h:List bN}{w:Int}{c:bN}
def HN(w:Int):Prop:=-9223372036854775808<=w/\w<=9223372036854775807
def Sz(h:List bN):Prop:=∀c∈h,∀w∈c.aF,HN w
def ua(B:cz M b aA ((tf e f).map Ce.i))(h:a<e):af M b a=some (vi (f a)):=by
 rw[B.cg a,cJ,vm h];rfl
def Jn(B:cz M b aA ((tf e f).map Ce.i))(a:Nat)(v:Int):cz (ah M b a [.i v]) b aA ((tf e (λx=>if x=a then v else f x)).map Ce.i):=by
 have:=B.ah (m:=M) (o:=a) (r:=[.i v]);rw[AJ,Ss]at this;exact this
def On(B:cz M b aA ((tf e f).map Ce.i))(h:a<e):fN M b a 1:=B.fN (by simp[oH];omega)
def Pq(B:cz M b aA ((tf e f).map Ce.i))(h:e<=9223372036854775807):ap M (.mk b 0 e e) (tf e f):=
 ⟨by simp[oH],ad _,h,λk x a=>⟨[.i x],rfl,λi c d=>by
  have g:k<e:=by have:=aw a;rwa[oH]at this
  rw[vm g]at a;simp at a;cases i with
  |zero=>simp at d;subst d;have:=ua B g;rw[a]at this;simpa[Ce.v]using this
  |succ i=>simp at d⟩⟩
def MC(M:E)(e:Nat):cz (M.push (.cells (bt (mN [.i (0:Int)] e)) aA)) M.size aA ((tf e (λ_=>0)).map Ce.i):=by
 rw[ui,Th];exact cz.push M _ _
def TH(f:Nat)(b:List Value)(d:E)(l:List Int):Prop:=aN cq f b d λv a=>∃s,v=O.v s/\ap a s l/\J d a
def Ms{f:O}(i:cW d f h)(k:HN w):dt cq 177 [O.v f,vi w] d (qM h w):=by
 apply Hg;refine(aX _ _ _ _).then λb m e c=>⟨b,rfl,λa=>iS (Or.inl (e.1 a)) c,λa=>?_⟩;refine(jc (cW.ext c i) k).then λb2 n g l=>⟨b2,rfl,eV ?_ (c.trans l)⟩;rw[g];exact⟨λh=>Or.inr h,λh=>h.resolve_left λj=>fb e a j⟩
def Ht{C f:O}(F:cW d C h)(x:ap d f c.aF)(G:∀w∈c.aF,HN w):dt cq 115 [O.v C,.agg #[vi c.aP,vi c.km,O.v f]] d (oK h c):=by
 apply BP;simp -zeta only[aD,aC];intro o;have e:J d o:=(J.az d).aJ _;have P:o.size=d.size+1:=by simp[o]
 clear_value o;have B:=x.len;refine⟨λt=>bV (λa=>by have:=a.fl;simp at t;omega) e,λt=>?_⟩;have y:c.aF.length<=3:=by simp at t;omega
 have q:∀b∈[d.size],b<o.size:=bF;refine(aX _ _ _ _).aG (J.az _) q λb N A i _=>⟨b,rfl,λu=>bV (λa=>nb A u ⟨a.lo,a.hi⟩) (e.trans i),λu=>?_⟩;have m:=yb A u;refine⟨λv=>?_,λv=>?_⟩
 .have k:c.aP<1:=by simpa using v
  refine⟨λl=>?_,λl=>bV (λa=>by simp at l;exact l (a.xp k).1) (e.trans i)⟩;have s:c.km=0:=by simpa using l
  refine(mr (x.ext (e.trans i))).aG i q λb3 H z j _=>⟨b3,rfl,λg=>?_,λg=>bV (λa=>fb z g (a.xp k).2.1) ((e.trans i).trans j)⟩;have D:=z.1 g;refine⟨λr=>iS ⟨y,m.1,m.2,λ_=>⟨s,D,λp=>by simp at r;omega⟩,λp=>V⟩ ((e.trans i).trans j),λr=>eV ?_ ((e.trans i).trans j)⟩;have E:c.aP=0:=by simp at r;omega
  constructor
  .intro p;have:c.aF=[]:=by simp at p;exact List.length_eq_zero_iff.1 V
   exact⟨y,m.1,m.2,λ_=>⟨s,D,λ_=>this⟩,λp=>V⟩
  .intro a;have:=(a.xp k).2.2 E;rw[this]at B;simp[B]
 .have k:0<c.aP:=by simp at v;omega
  refine dV (n:=c.aF.length) V (λz p=>J o p/\∀w∈c.aF.take z,qM h w) ⟨i,aL⟩ ?_;rintro z H L μ M ⟨j,D⟩ I
  refine dit (λl=>?_) λl=>?_
  .let⟨w,r⟩:=cG c.aF z;refine⟨V,V,w,by simpa using(x.ext (e.trans j)).aH r,(Ms (cW.ext (e.trans j) F) (G w (aq r))).aG j q λb4 E p K s=>⟨b4,rfl,λg=>bV (λa=>nb p g ((a.ph k).1 w (aq r))) (e.trans s),λg=>I V E ⟨s,bC r D (yb p g)⟩⟩⟩
  .refine(aX _ _ _ _).aG j q λb4 E p K s=>⟨b4,rfl,eV ?_ (e.trans s)⟩;rw[p];exact⟨λr=>⟨y,m.1,m.2,λg=>V,λ_=>⟨db V D,r⟩⟩,λa=>(a.ph k).2⟩
def Oi{i:Nat}(b:h[i]? =some c)(a:Nat):eu (h.take (i+1)) a=eu (h.take i) a+eB c.aF a:=by
 rw[aU b,uY];simp[eu]
def rH{l:List Int}{k:Nat}(b:l[k]? =some w)(a:Nat):eB (l.take (k+1)) a=eB (l.take k) a+(if w=1000+(a:Int)then 1 else 0):=by
 rw[aU b,lW];simp[eB]
def Cp:∀(h:List bN)(a:Nat),(∀c∈h,c.aF.length<=3)->eu h a<=3*h.length
 |[],a,_=>by simp[eu]
 |c::h,a,b=>by
  have e:=Cp h a λd hd=>b d (by simp[hd]);have f:=kD c.aF a;have g:=b c aL;simp only[eu,aZ];omega
def Jw(b:∀c∈h,oK h c)(d:c∈h)(e:w∈c.aF):gB h w\/w<1000:=by
 by_cases f:0<c.aP
 .rcases((b c d).ph f).1 w e with a|a
  .have:=a.2;exact Or.inr V
  .exact Or.inl a
 .have:=((b c d).xp V).2.1 w e;exact Or.inr V
def BE{B:O}(z:cW d B h)(u:∀c∈h,oK h c)(R:Sz h)(af:h.length<=1000000000):TH 116 [O.v B] d (tf h.length (eu h)):=by
 apply Hj;have hl:=z.len;have en:Int.toNat (B.len:Int)=h.length:=V;rw[en];refine⟨V,V,V,V,?_⟩;intro C;have Y:J d C:=(J.az d).aJ _;have K:cz C d.size aA ((tf h.length (λ_=>0)).map Ce.i):=MC d _;clear_value C;have Q:∀i,∀c∈h.take i,c.aF.length<=3:=λi c S=>(u c (dB S)).fl;refine dV (n:=h.length) V (λi e=>J d e/\cz e d.size aA ((tf h.length (λa=>eu (h.take i) a)).map Ce.i)) ⟨Y,by simpa[eu]using K⟩ ?_;rintro i m2 Z μ hi ⟨I,p⟩ X
 refine dit (λN=>?_) λN=>?_
 .let⟨c,v⟩:=cG h i;have x:=aq v;have ab:=(u c x).fl;refine dV (n:=c.aF.length) V (λk e=>J d e/\cz e d.size aA ((tf h.length (λa=>eu (h.take i) a+eB (c.aF.take k) a)).map Ce.i)) ⟨I,by simpa[eB]using p⟩ ?_;rintro k U aa ν hk ⟨m,o⟩ H;obtain⟨f,y,_,_,s⟩:=(cW.ext m z).aH v;have ac:=y.len;refine⟨V,V,f,by simpa using s,dit (λP=>?_) λP=>?_⟩
  .let⟨w,l⟩:=cG c.aF k;have G:=aq l;have F:=R c x w G;refine⟨V,V,f,by simpa using s,V,V,w,by simpa using y.aH l,(jc (cW.ext m z) F).then λb W j e=>⟨b,rfl,λt=>?_,λt=>?_⟩⟩
   .have A:=j.1 t;have E:=aw (bS A).1;have L:cQ (w -1000)=(ix w:Nat):=by have:=A.1;have:=F.2;unfold ix;rw[aQ V V];omega
    have M:Int.toNat ((ix w:Nat):Int)=ix w:=V;have q:=o.ext e;have q1:=Cp (h.take i) (ix w) (Q i);have q2:=kD (c.aF.take k) (ix w);have q3:=rm (h.take i) (ix w);have q4:=iG (c.aF.take k) (ix w);have q5:(h.take i).length<=h.length:=bF;have q6:(c.aF.take k).length<=3:=bF;refine⟨V,V,f,by simpa using e.af s,V,V,w,by simpa using(y.ext e).aH l,?_⟩;rw[L,M];simp only[O.gJ,O.jF,O.nh,bT,eS];refine⟨V,V,_,ua q E,V,V,On q E,?_⟩;rw[show cQ (eu (h.take i) (ix w)+eB (c.aF.take k) (ix w)+1)=eu (h.take i) (ix w)+eB (c.aF.take k) (ix w)+1 from aQ V V];refine H V _ ⟨(m.trans e).ah (ad _) _ _,?_⟩;have D:=Jn q (ix w) (eu (h.take i) (ix w)+eB (c.aF.take k) (ix w)+1);rw[fF (g:=λa=>eu (h.take i) a+eB (c.aF.take (k+1)) a)]at D
    .exact D
    .intro b j;rw[rH l];by_cases r:b=ix w
     .subst r;rw[an rfl,an (iy A.1).symm];omega
     .rw[ae r,ae (λT=>r (by rw[T,lD]))];omega
   .refine H V W ⟨m.trans e,?_⟩;have q:w<1000:=(Jw u x G).resolve_left (fb j t);rw[fF (g:=λa=>eu (h.take i) a+eB (c.aF.take k) a)]
    .exact o.ext e
    .intro b j;rw[rH l,ae V];omega
  .refine X V U ⟨m,?_⟩
   have e:c.aF.take k=c.aF:=bY V;rw[e]at o;rw[fF (g:=λa=>eu (h.take i) a+eB c.aF a)]
   .exact o
   .intro b j;exact Oi v b
 .rw[bY V]at p;exact⟨_,rfl,Pq p V,I⟩
end
section
variable{a b c:Nat}{h:List bN}{M g:E}{e:Nat->Bool}
def mK(mk:Nat->Bool):Nat->Nat
 |0=>0
 |c+1=>mK mk c+(if mk c=true then 1 else 0)
def FY(mk:Nat->Bool):∀c,mK mk c<=c
 |0=>ad _
 |c+1=>by have:=FY mk c;simp only[mK];split<;>omega
def K6{mk:Nat->Bool}:∀{c:Nat},(mK mk c=c<->∀i,i<c->mk i=true)
 |0=>by simp[mK]
 |c+1=>by
  have g:=FY mk c;have a:=K6 (mk:=mk) (c:=c);simp only[mK];constructor
  .intro h i f;have b:mk c=true:=by by_cases e:mk c=true;exact e;rw[ae e]at h;omega
   rw[an b]at h;rcases aW i c with d|d
   .exact a.1 V i d
   .have:i=c:=V;rw[this];exact b
  .intro h;rw[an (h c V),a.2 λi f=>h i V]
def La{mk a:Nat->Bool}:∀{c:Nat},(∀i,i<c->mk i=a i)->mK mk c=mK a c
 |0,_=>rfl
 |c+1,h=>by simp only[mK];rw[La λi b=>h i V,h c V]
def mR(mk:Nat->Bool)(a:Nat):Nat->Bool:=λx=>if x=a then true else mk x
def Cs(mk:Nat->Bool)(a:Nat):mR mk a a=true:=an rfl
def pZ{mk:Nat->Bool}(h:b≠a):mR mk a b=mk b:=ae h
def Ct{mk:Nat->Bool}(h:mk b=true):mR mk a b=true:=by unfold mR;split;rfl;exact h
def Ad{mk:Nat->Bool}{a:Nat}(h:mk a=false):∀{c:Nat},a<c->mK (mR mk a) c=mK mk c+1
 |0,d=>absurd d (eX _)
 |c+1,d=>by
  simp only[mK];rcases aW a c with b|b
  .rw[Ad h b,pZ V];omega
  .have e:a=c:=V;subst e;rw[Cs,an rfl,h,ae aL,La (a:=mk) λi f=>pZ V]
def NH(h:List bN)(mk:Nat->Bool):Prop:=
 ∃t:Nat->Nat,(∀j,mk j=true->t j<=mK mk h.length)/\∀(i:Nat)(c:bN),h[i]? =some c->mk i=true->∀w∈c.aF,1000<=w->mk (ix w)=true/\t (ix w)<t i
def PD(mk:Nat->Bool)(a:List Int):Prop:=∀w∈a,1000<=w->mk (ix w)=true
def NH.set{mk:Nat->Bool}(u:NH h mk){j:bN}(l:h[a]? =some j)(e:mk a=false)(s:PD mk j.aF):NH h (mR mk a):=by
 let⟨z,k,r⟩:=u;have t:=aw l;have q:=Ad e t;refine⟨λx=>if x=a then mK mk h.length+1 else z x,λv n=>?_,λi d hd m w p o=>?_⟩
 .simp only[q];split
  .omega
  .rename_i b;rw[pZ b]at n;have:=k v n;omega
 .by_cases f:i=a
  .subst f;rw[l]at hd;simp at hd;subst hd;have b:=s w p o;have g:ix w≠i:=λc=>by rw[c,e]at b;cases b
   simp only[an,ae g];exact⟨Ct b,oh (k _ b)⟩
  .rw[pZ f]at m;let⟨b,y⟩:=r i d hd m w p o;have g:ix w≠a:=λc=>by rw[c,e]at b;cases b
   simp only[ae f,ae g];exact⟨Ct b,y⟩
def SW{mk:Nat->Bool}(n:NH h mk)(m:∀a∈h,∀w∈a.aF,1000<=w->ix w<h.length)(k:∀(i:Nat)(a:bN),h[i]? =some a->mk i=true\/¬PD mk a.aF):
 mK mk h.length=h.length<->Tq h:=by
 rw[K6]
 constructor
 .intro g
  obtain⟨t,_,f⟩:=n
  exact⟨t,λi a b w e d=>(f i a b (g i (aw b)) w e d).2⟩
 .rintro⟨j,o⟩
  have q:∀(c i:Nat),j i<c->i<h.length->mk i=true:=by
   intro c;induction c with
   |zero=>intro i g;omega
   |succ c p=>
    intro i g l;let⟨a,b⟩:=dC l;rcases k i a b with f|f
    .exact f
    .refine absurd (λw e d=>?_) f;exact p (ix w) (oh (o i a b w e d)) (m a (aq b) w e d)
  exactλi g=>q (j i+1) i V g
def Aa(c:Nat)(e:Nat->Bool):List Ce:=(List.range c).map λa=>Ce.t (e a)
def FU(c:Nat)(e:Nat->Bool):(Aa c e).length=c:=by simp[Aa]
def RL(B:cz M b tg (Aa c e))(h:a<c):af M b a=some (vb (e a)):=by
 rw[B.cg a];unfold Aa;rw[cJ,Nz h];rfl
def Vb(B:cz M b tg (Aa c e))(a:Nat):cz (ah M b a [.t true]) b tg (Aa c (mR e a)):=by
 have j:=B.ah (m:=M) (o:=a) (r:=[.t true]);have d:jf (Aa c e) a [.t true]=Aa c (mR e a):=by
  apply gY;intro i;simp only[jf];by_cases k:i<c
  .have f:∀g:Nat->Bool,(Aa c g)[i]? =some (.t (g i)):=λg=>by unfold Aa;rw[cJ,Nz k];rfl
   rw[f];by_cases d:a=i
   .subst d;rw[dy (by rw[FU];exact k),Cs]
   .rw[cv d,f,pZ (λh=>d h.symm)]
  .rw[cN (by rw[eg,FU];omega),cN (by rw[FU];omega)]
 rw[d]at j;exact j
def Va(M:E)(c:Nat):cz (M.push (.cells (bt (mN [.t false] c)) tg)) M.size tg (Aa c (λ_=>false)):=by
 have e:mN [.t false] c=Aa c (λ_=>false):=by
  unfold mN Aa;rw[List.map_const'];simp
 rw[e];exact cz.push M _ _
def GN{mk:Nat->Bool}{e:O}{d:List Int}(B:cz g b tg (Aa c mk))(k:ap g e d)(p:∀w∈d,HN w)(E:∀w∈d,1000<=w->ix w<c):
 dt cq 178 [O.v (.mk b 0 c c),O.v e] g (PD mk d):=by
 apply AN
 have H:=k.len
 have K:=k.gX
 refine dV (n:=d.length) V (λr a=>J g a/\PD mk (d.take r)) ⟨J.az _,λw p=>by simp at p⟩ ?_
 rintro r L I μ G ⟨f,l⟩ x
 refine dit (λA=>?_) λA=>?_
 .let⟨w,h⟩:=cG d r
  have q:=aq h
  have C:=p w q
  refine⟨V,V,w,by simpa using(k.ext f).aH h,(dW _ _).then λF u t i=>⟨F,rfl,λo=>?_,λo=>?_⟩⟩
  .have s:=t.1 o
   have D:=E w q s
   have y:cQ (w -1000)=(ix w:Nat):=by have:=C.2;unfold ix;rw[aQ V V];omega
   have z:Int.toNat ((ix w:Nat):Int)=ix w:=V
   refine⟨V,V,w,by simpa using(k.ext (f.trans i)).aH h,?_⟩
   rw[y,z]
   simp only[O.gJ,O.jF,O.nh,bT,eS]
   refine⟨V,V,mk (ix w),RL (B.ext (f.trans i)) D,λj=>bV (λa=>by rw[a w q s]at j;cases j) (f.trans i),λj=>x V u ⟨f.trans i,?_⟩⟩
   rw[PD,aU h]
   intro v a m
   rcases List.mem_append.1 a with a|a
   .exact l v a m
   .simp at a;subst a;simpa using j
  .refine x V u ⟨f.trans i,?_⟩
   rw[PD,aU h]
   intro v a m
   rcases List.mem_append.1 a with a|a
   .exact l v a m
   .simp at a;subst a;exact absurd m (fb t o)
 .rw[bY V]at l
  exact iS l f
def Hc{y:O}(L:cW g y h)(hc:∀d∈h,oK h d)(aa:Sz h)(ae:h.length<=1000000000):dt cq 117 [O.v y] g (Tq h):=by
 apply Bl;have hl:=L.len;have en:Int.toNat (y.len:Int)=h.length:=V;rw[en];have N:∀d∈h,∀G∈d.aF,1000<=G->ix G<h.length:=λd hm G hw y=>by
  rcases Jw hc hm hw with o|o
  .exact aw (bS o).1
  .omega
 refine⟨V,V,V,V,?_⟩;intro F;have x1:J g F:=(J.az g).aJ _;have W:cz F g.size tg (Aa h.length (λ_=>false)):=Va g _;clear_value F;have X:mK (λ_=>false) h.length=0:=by
  generalize h.length=c;induction c with
  |zero=>rfl
  |succ c a=>simp[mK,a]
 refine Sv (γ:=(Nat->Bool)×Bool) (λf R ic u=>ic=f.2/\R=(mK f.1 h.length:Nat)/\J g u/\cz u g.size tg (Aa h.length f.1)/\NH h f.1/\(ic=false->∀(i:Nat)(d:bN),h[i]? =some d->f.1 i=true\/¬PD f.1 d.aF))
  (λf=>if f.2=true then h.length -mK f.1 h.length+1 else 0) (λ_=>false,true) ⟨rfl,by rw[X];rfl,x1,W,⟨λ_=>0,aL,aL⟩,aL⟩ ?_
 rintro⟨mk,ic⟩ R af m2 ab μ ⟨rfl,rfl,U,H,B,I⟩ T
 simp only at H B I T⊢
 refine⟨λo=>?_,λo=>?_⟩
 .refine⟨λS z i u=>∃(k:Nat)(a:Nat->Bool),i=k/\k<=h.length/\S=(mK a h.length:Nat)/\J g u/\cz u g.size tg (Aa h.length a)/\NH h a/\mK mk h.length<=mK a h.length/\(z=true->mK mk h.length<mK a h.length)/\
   (z=false->∀(i:Nat)(d:bN),i<k->h[i]? =some d->a i=true\/¬PD a d.aF),λ_ _ i _=>((h.length:Int) -i).toNat,⟨0,mk,rfl,dx _,rfl,U,H,B,ad _,aL,λ_ i d j=>absurd j (eX _)⟩,?_⟩
  rintro S z i m3 ⟨k,a,rfl,hk,rfl,v,n,w,Q,E,E3⟩;have ac:=FY a h.length;have nM:∀{P:Prop},k<h.length->(cQ ((k:Int)+1)=((k+1:Nat):Int)->((h.length:Int) -((k+1:Nat):Int)).toNat<((h.length:Int) -(k:Int)).toNat->P)->P:=λM hP=>hP (jX M V) (DS M);refine dit (λh2=>?_) λh2=>?_
  .have p:k<h.length:=V;let⟨d,s⟩:=dC p;have Y:Int.toNat (k:Int)=k:=V;simp only[O.gJ,O.jF,O.nh,bT,eS,Y];refine⟨V,V,a k,RL n p,λC=>?_,λC=>?_⟩
   .have x:a k=false:=by simpa using C
    obtain⟨e,hf,_,_,Z⟩:=(cW.ext v L).aH s;refine⟨V,V,e,Z,(GN n hf (aa d (aq s)) (N d (aq s))).then λb m4 K A=>⟨b,rfl,λD=>?_,λD=>?_⟩⟩
    .have j:=n.ext A;have m:=Ad x p;refine⟨V,V,j.fN (by rw[FU];omega),?_⟩;refine nM p λr t=>?_;rw[r,show cQ ((mK a h.length:Nat)+1:Int)=((mK (mR a k) h.length:Nat):Int)by rw[m,aQ V V];omega];exact⟨⟨k+1,mR a k,rfl,V,rfl,(v.trans A).ah (ad _) _ _,Vb j k,w.set s x (K.1 D),V,λ_=>V,λl=>by cases l⟩,t⟩
    .refine nM p λr t=>?_;rw[r];refine⟨⟨k+1,a,rfl,V,rfl,v.trans A,n.ext A,w,Q,E,λl j q hj hd=>?_⟩,t⟩;rcases aW j k with m|m
     .exact E3 l j q m hd
     .have:j=k:=V;subst this;rw[s]at hd;simp at hd;subst hd;exact Or.inr (fb K D)
   .have x:a k=true:=by simpa using C
    refine nM p λr t=>?_;rw[r];refine⟨⟨k+1,a,rfl,V,rfl,v,n,w,Q,E,λl j q hj hd=>?_⟩,t⟩;rcases aW j k with m|m
    .exact E3 l j q m hd
    .have:j=k:=V;subst this;exact Or.inl x
  .refine T (a,z) _ _ m3 ⟨rfl,rfl,v,n,w,λl j q hd=>E3 l j q (oh (aw hd)) hd⟩ ?_
   simp only[o,MO];split
   .rename_i m;have:=E m;omega
   .omega
 .refine eV ?_ U;rw[<-SW B N (I o)];simp;omega
def Hv{r:O}(m:cW g r h)(C:Sz h)(K:h.length<=1000000000):dt cq 62 [O.v r] g (OB h):=by
 apply BR;have Z:=m.len;refine⟨λs=>s=g/\oE h,⟨λq=>?_,λq=>⟨rfl,λc d=>?_⟩⟩,?_⟩
 .simp at q;rw[aQ V V];let⟨c,d⟩:=cG h (h.length -1);obtain⟨e,B,g1,_,_⟩:=m.aH d;have i:Int.toNat ((r.len:Int) -1)=h.length -1:=V;rw[i];refine⟨V,V,c.aP,g1,λj=>bV (λl=>l.jC c d (by simpa using j)) (J.az _),λj=>⟨rfl,λo hd=>?_⟩⟩;rw[d]at hd;simp at hd;subst hd;simpa using j
 .have:=aw d;simp at q;omega
 rintro S ⟨rfl,R⟩;refine dV (n:=h.length) V (λi s=>J S s/\∀c∈h.take i,oK h c) ⟨J.az _,aL⟩ ?_;rintro i m2 W μ l ⟨p,G⟩ T
 refine dit (λq=>?_) λq=>?_
 .let⟨c,d⟩:=cG h i;let⟨e,B,g1,g2,E⟩:=(cW.ext p m).aH d;refine⟨V,V,c.aP,by simpa using g1,c.km,by simpa using g2,e,by simpa using E,(Ht (cW.ext p m) B (C c (aq d))).then λb D u w=>⟨b,rfl,λj=>bV (λl=>nb u j (l.cells c (aq d))) (p.trans w),λj=>T V D ⟨p.trans w,bC d G (yb u j)⟩⟩⟩
 have A:=db V G;refine(BE (cW.ext p m) A C K).mono ?_;rintro _ D ⟨U,rfl,I,w⟩;have Q:=I.len;rw[oH]at Q;refine⟨U,rfl,dV (n:=h.length) V (λi s=>J D s/\∀(a:Nat)(c:bN),a<i->h[a]? =some c->0<c.aP->eu h a<=c.aP) ⟨J.az _,λa c t=>absurd t (eX _)⟩ ?_⟩;rintro i L X ν Y ⟨x,H⟩ M;have v:=(p.trans w).trans x;refine dit (λj=>?_) λj=>?_
 .let⟨c,d⟩:=cG h i;let⟨e,B,g1,g2,E⟩:=(cW.ext v m).aH d;have ic:(0<c.aP->eu h i<=c.aP)->∀(a:Nat)(o:bN),a<i+1->h[a]? =some o->0<o.aP->eu h a<=o.aP:=λP a o t hd=>by
   rcases aW a i with F|F
   .exact H a o F hd
   .have:a=i:=V;subst this;rw[d]at hd;simp at hd;subst hd;exact P
  refine⟨V,V,c.aP,by simpa using g1,λy=>?_,λy=>M V L ⟨x,ic λz=>by simp at y;omega⟩⟩;have N:=(I.ext x).aH (k:=i) (vm (f:=eu h) (show i<h.length by omega));refine⟨V,V,c.aP,by simpa using g1,V,V,eu h i,by simpa using N,λz=>bV (λl=>?_) v,λz=>M V L ⟨x,ic λ_=>by simp at z;omega⟩⟩;have:=l.eu i c d (by simpa using y);simp at z;omega
 .refine(Hc (cW.ext v m) A C K).then λb y u o=>⟨b,rfl,eV ?_ (v.trans o)⟩;rw[u];exact⟨λt=>⟨R,A,λa c d r=>H a c (oh (aw d)) d r,t⟩,λl=>l.MQ⟩
end
section
variable{m:E}{f:aY}
structure gD(m:E)(aS hp fr:O)(s:St):Prop where
 aS:ap m aS s.aS
 heap:cW m hp s.heap
 ao:jB m fr s.ao
def gD.ext{m d:E}{aS c b:O}{s:St}(h:gD m aS c b s)(a:J m d):gD d aS c b s:=⟨h.aS.ext a,cW.ext a h.heap,jB.ext a h.ao⟩
def Sy(f:aY):Prop:=(∀w∈f.ak,HN w)/\(∀w∈f.aR,HN w)/\(∀w∈f.ba,HN w)
structure yO(s:St):Prop where
 bu:HN s.bu
 heap:Sz s.heap
 ao:∀f∈s.ao,Sy f
 lh:s.heap.length<=10000000
 lf:s.ao.length<=10000000
 lr:∀f∈s.ao,f.ak.length<=10000000/\f.aR.length<=10000000/\f.ba.length<=10000000
def KB(s:St)(aS b a:O):Value:=.agg #[vi s.cB,vi s.value,vi s.bu,vi s.dT,O.v aS,O.v b,O.v a]
def EF{f:O}{l:List Int}(c:ap m f l):dt cq 61 [O.v f] m (∀a∈l,gR a):=by
 apply zh;have s:=c.len;have t:=c.gX;refine dV (n:=l.length) V (λk b=>J m b/\∀a∈l.take k,gR a) ⟨J.az _,aL⟩ ?_;rintro k u I μ r ⟨a,g⟩ q
 refine dit (λj=>?_) λj=>?_
 .let⟨w,d⟩:=cG l k;exact⟨V,V,w,by simpa using(c.ext a).aH d,(aX _ _ _ _).then λi p e h=>⟨i,rfl,λb=>bV (λo=>nb e b (o w (aq d))) (a.trans h),λb=>q V p ⟨a.trans h,bC d g (yb e b)⟩⟩⟩
 .exact iS (db V g) a
def RI(h:List bN)(w o:Int):Prop:=(gR w\/1000<=w)/\(0<=o/\o<=999999)/\(0<o->gB h w)
def Hx{x z o aa:O}{h:List bN}(hh:cW m x h)(C:ap m z f.ak)(R:ap m o f.aR)(ad:f.aR.length=f.ak.length)(ab:Sy f)(Y A Z:Int):
 dt cq 118 [O.v x,.agg #[vi Y,vi A,vi Z,O.v z,O.v o,O.v aa]] m (HT h f):=by
 apply BW
 simp -zeta only[aD,aC]
 intro b
 have p:J m b:=(J.az m).aJ _
 have s1:b.size=m.size+1:=by simp[b]
 clear_value b
 have v:∀A∈[m.size],A<b.size:=bF
 have ah:=C.len
 have ag:=R.len
 have ae:=C.gX
 refine dV (n:=f.ak.length) V (λk m'=>J b m'/\∀(j:Nat)(w o:Int),j<k->f.ak[j]? =some w->f.aR[j]? =some o->RI h w o) ⟨J.az _,λj w o P=>absurd P (eX _)⟩ ?_
 rintro k U K μ Q ⟨I,S⟩ W
 refine dit (λh1=>?_) λh1=>?_
 .let⟨w,i⟩:=cG f.ak k
  let⟨r,B⟩:=cG f.aR k
  have gw:∀{M:E},J b M->af M z.D (z.off+Int.toNat (k:Int)*1)=some (vi w):=λD=>by simpa using(C.ext (p.trans D)).aH i
  have L:∀{M:E},J b M->af M o.D (o.off+Int.toNat (k:Int)*1)=some (vi r):=λD=>by simpa using(R.ext (p.trans D)).aH B
  have ic:RI h w r->∀(j:Nat)(w o:Int),j<k+1->f.ak[j]? =some w->f.aR[j]? =some o->RI h w o:=λa j w' G P y q=>by
   rcases aW j k with N|N
   .exact S j w' G N y q
   .have:j=k:=V;subst this;rw[i]at y;rw[B]at q;simp at y q;subst y;subst q;exact a
  have F:¬RI h w r->¬HT h f:=λa Q=>a (Q.dA k w r i B)
  have jR:∀{M:E},J b M->(gR w\/1000<=w)->(0:Int)<=(k:Int)/\(k:Int)<(o.len:Int)/\∃X:Int,af M o.D (o.off+Int.toNat (k:Int)*1)=some (vi X)/\
   aN cq 41 [vi X,vi (0:Int),vi (999999:Int)] M λac l=>eG [m.size] M l/\∃H:Bool,ac=vb H/\
   ((!H)=true->∃c:Bool,vb false=.bool c/\(c=true<->HT h f)/\J m l)/\
   ((!H)=false->(0:Int)<=(k:Int)/\(k:Int)<(o.len:Int)/\∃g:Int,af l o.D (o.off+Int.toNat (k:Int)*1)=some (vi g)/\
   ((decide (g>(0:Int)))=true->aN cq 130 [O.v x,vi w] l λs d=>eG [m.size] l d/\∃e:Bool,s=vb e/\
    ((!e)=true->∃c:Bool,vb false=.bool c/\(c=true<->HT h f)/\J m d)/\((!e)=false->K (cQ ((k:Int)+(1:Int))) d/\μ (cQ ((k:Int)+(1:Int))) d<μ k U))/\
   ((decide (g>(0:Int)))=false->K (cQ ((k:Int)+(1:Int))) l/\μ (cQ ((k:Int)+(1:Int))) l<μ k U)):=λ{M} xM hi=>by
   refine⟨V,V,r,L xM,(aX _ _ _ _).aG xM v λb3 m3 s x3 c=>⟨b3,rfl,λd=>bV (F λa=>nb s d a.2.1) (p.trans c),λd=>?_⟩⟩
   have T:=yb s d
   refine⟨V,V,r,L c,λe=>?_,λe=>W V _ ⟨c,ic ⟨hi,T,λx=>by simp at e;omega⟩⟩⟩
   refine(jc (cW.ext (p.trans c) hh) (ab.1 w (aq i))).aG c v λb4 m4 t x4 u=>⟨b4,rfl,λg=>bV (F λa=>nb t g (a.2.2 (by simpa using e))) (p.trans u),λg=>W V _ ⟨u,ic ⟨hi,T,λ_=>yb t g⟩⟩⟩
  refine⟨V,V,w,gw I,(aX _ _ _ _).aG I v λb3 m3 s x3 c=>⟨b3,rfl,λd=>?_,λd=>jR c (Or.inl (yb s d))⟩⟩
  refine(dW _ _).aG c v λb4 m4 t x4 u=>⟨b4,rfl,λe=>bV (F λa=>?_) (p.trans u),λe=>jR u (Or.inr (yb t e))⟩
  rcases a.1 with g|g
  .exact nb s d g
  .exact nb t e g
 .exact iS ⟨λj w G i q=>S j w G (oh (aw i)) i q⟩ (p.trans I)
def Fo{Q p aS c R:O}{l:cR}{s:St}(I:fj m Q p l)(i:gD m aS c R s)(ah:yO s){k:Nat}(H:s.ao[k]? =some f):
 dt cq 63 [.agg #[O.v Q,O.v p],KB s aS c R,vi k] m (KM l s.heap (nJ s.ao k) f):=by
 apply zH
 simp -zeta only[aD,aC]
 intro t b
 have x2:J m b:=((J.az m).aJ _).aJ _
 have s1:t.size=m.size+1:=by simp[t]
 have s2:b.size=m.size+2:=by simp[b,s1]
 clear_value b
 have au:=i.ao.len
 have ax:=i.ao.gX
 have az:=aw H
 have aJ:=I.cF.len
 have aL:=I.cF.gX
 let⟨an,am,af,hr,Z,he,g0,g1,g2,g3,g4,g5⟩:=(i.ext x2).ao.aH H
 have ek:Int.toNat (k:Int)=k:=V
 rw[ek]
 refine⟨V,V,_,g0,_,g1,_,g2,an,g3,am,g4,af,g5,?_⟩
 intro m3 n
 have x4:J b n:=((J.az b).aJ _).ah (ad _) _ _
 have s4:n.size=b.size+1:=by simp[n,m3,av]
 clear_value n
 have hl:∀z∈[b.size,t.size,m.size],z<n.size:=bF
 have M:=x2.trans x4
 rw[aQ V V]
 refine(aX _ _ _ _).aG (J.az _) hl λb5 u T x _=>⟨b5,rfl,λA=>bV (λa=>nb T A ⟨a.fI.1,oh a.fI.2⟩) (M.trans x),λA=>?_⟩
 have aj:=yb T A
 have N:=M.trans x
 let⟨v,hq⟩:=cG l.cF f.fI.toNat
 have d:dO l f.fI=v:=by unfold dO;rw[hq];rfl
 let⟨pa,pl,pc,aF,aK,aa,k0,k1,k2,k3,k4⟩:=(I.ext N).cF.aH hq
 have aG:=aa.len
 have aI:=aa.gX
 refine⟨V,V,pa,k0,pl,k1,_,k2,_,k3,pc,k4,?_⟩
 intro m6 o
 have x7:J u o:=((J.az u).aJ _).ah (ad _) _ _
 have s7:o.size=u.size+1:=by simp[o,m6,av]
 have z5:=x.size
 clear_value o
 have K:∀z∈[u.size,b.size,t.size,m.size],z<o.size:=bF
 have P:=N.trans x7
 rw[aQ V V]
 refine(aX _ _ _ _).aG (J.az _) K λb8 m8 U y _=>⟨b8,rfl,λB=>bV (λa=>nb U B ⟨a.pc.1,by have:=a.pc.2;rw[d]at this;omega⟩) (P.trans y),λB=>?_⟩
 have ak:=yb U B
 have e:=P.trans y
 have aN:=hr.len
 have aA:=Z.len
 have ar:=he.len
 refine⟨λC=>bV (λa=>by have:=a.lr;rw[d]at this;simp at C;omega) e,λC=>?_⟩
 have q1:(f.ak.length:Int)=v.ak:=by simp at C;omega
 refine⟨λD=>bV (λa=>by have:=a.lo;rw[d]at this;simp at D;omega) e,λD=>?_⟩
 have q2:(f.aR.length:Int)=v.ak:=by simp at D;omega
 refine⟨λE=>bV (λa=>by have:=a.lh;rw[d]at this;simp at E;omega) e,λE=>?_⟩
 have q3:(f.ba.length:Int)=v.ak:=by simp at E;omega
 have ai:=ah.ao f (aq H)
 have ac:=((x4.trans x).trans x7).trans y
 refine(Hx (i.ext e).heap (hr.ext ac) (Z.ext ac) V ai _ _ _).aG y K λb9 m9 W x9 ao=>⟨b9,rfl,λF=>bV (λa=>nb W F a.ak) (e.trans x9),λF=>?_⟩
 have al:=yb W F
 have q:=e.trans x9
 have mk:(nJ s.ao k=none->f.dst=0)->(∀p,nJ s.ao k=some p->0<=f.dst/\f.dst<p.aR.length/\aH p.aR f.dst=0)->KM l s.heap (nJ s.ao k) f:=λha hb=>
  ⟨⟨aj.1,V⟩,⟨ak.1,by rw[d];omega⟩,by rw[d];exact q1,by rw[d];exact q2,by rw[d];exact q3,al,ha,hb⟩
 refine⟨λG=>eV ?_ q,λG=>?_⟩
 .have g:k=0:=by simp at G;omega
  subst g
  refine⟨λh=>mk (λ_=>by simpa using h) (λp c=>by simp[nJ]at c),λa=>by simpa using a.first rfl⟩
 .have ay:k≠0:=by simp at G;omega
  obtain⟨j,rfl⟩:∃j,k=j+1:=⟨k -1,V⟩
  have ej:cQ (((j+1:Nat):Int) -1)=(j:Int):=by rw[aQ V V];omega
  have ag:Int.toNat (j:Int)=j:=V
  rw[ej,ag]
  let⟨g,X⟩:=cG s.ao j
  have r:nJ s.ao (j+1)=some g:=X
  obtain⟨r',o',e',aM,L,ap,_,_,_,_,y4,_⟩:=(i.ext q).ao.aH X
  have aB:=L.len
  have aE:=L.gX
  refine⟨V,V,o',y4,?_⟩
  rw[aQ V V]
  refine(aX _ _ _ _).aG ao K λae aO S w _=>⟨ae,rfl,λh=>?_,λh=>bV (λa=>?_) (q.trans w)⟩
  .have hd:=S.1 h
   let⟨ab,hv⟩:=cG g.aR f.dst.toNat
   have ev:aH g.aR f.dst=ab:=HW hv
   refine⟨V,V,o',w.af y4,V,V,ab,(L.ext w).aH hv,eV ?_ (q.trans w)⟩
   refine⟨λh9=>mk (λY=>by rw[r]at Y;cases Y) (λp c=>by rw[r]at c;simp at c;subst c;exact⟨hd.1,V,by rw[ev];simpa using h9⟩),λa=>?_⟩
   have:=(a.next g r).2.2
   rw[ev]at this;simpa using this
  .have:=a.next g r
   exact fb S h ⟨this.1,V⟩
end
section
variable{i:Nat}{f:aY}
def Lu{b:List aY}(c:b[i]? =some f)(a:Nat):dH (b.take (i+1)) a=dH (b.take i) a+eB f.ba a:=by
 rw[aU c,eL,jd]
def Od{b:List aY}(c:b[i]? =some f)(a:Nat):fE (b.take (i+1)) a=fE (b.take i) a+de f.ak f.aR a:=by
 rw[aU c,gA,kU]
def tI:∀{ak aR:List Int}{a:Nat}{w o:Int},ak[a]? =some w->aR[a]? =some o->∀b,de (ak.take (a+1)) (aR.take (a+1)) b=de (ak.take a) (aR.take a) b+(if w=1000+(b:Int)then o else 0)
 |[],_,_,_,_,h,_,_=>by simp at h
 |_::_,[],_,_,_,_,h,_=>by simp at h
 |r::f,p::e,0,w,o,c,d,b=>by simp at c d;subst c;subst d;simp[de]
 |r::f,p::e,a+1,w,o,c,d,b=>by
  have:=tI (ak:=f) (aR:=e) (a:=a) (by simpa using c) (by simpa using d) b;simp only[NE,de]at this⊢;omega
def Lt:∀{a:List aY}{n:Nat},(∀f∈a,f.ba.length<=n)->∀b,dH a b<=a.length*n
 |[],n,_,b=>by simp[dH]
 |f::a,n,h,b=>by
  have c:=Lt (a:=a) λg d=>h g (by simp[d]);have e:=c b;have i:=kD f.ba b;have j:=h f aL;simp only[dH,aZ];have:((a.length+1:Nat):Int)*n=a.length*n+n:=by push_cast;rw[Zq];omega
  omega
def GG:∀{ak aR:List Int}{n:Int},0<=n->(∀o∈aR,0<=o/\o<=n)->∀a,0<=de ak aR a/\de ak aR a<=aR.length*n
 |[],aR,n,b,h,a=>by simp[de];exact Int.mul_nonneg V b
 |_::_,[],n,b,h,a=>by simp[de]
 |r::e,o::c,n,b,h,a=>by
  have f:=GG (ak:=e) (aR:=c) b (λx d=>h x (by simp[d])) a;have d:=h o aL;have:((c.length+1:Nat):Int)*n=c.length*n+n:=by push_cast;rw[Zq];omega
  simp only[de,aZ];split<;>omega
def KH:∀{a:List aY}{n:Nat}{k:Int},0<=k->(∀f∈a,f.aR.length<=n/\∀o∈f.aR,0<=o/\o<=k)->∀b,0<=fE a b/\fE a b<=a.length*(n*k)
 |[],n,k,_,_,b=>by simp[fE]
 |f::a,n,k,c,h,b=>by
  have e:=KH (a:=a) c (λg d=>h g (by simp[d])) b;let⟨j,d⟩:=h f aL;have g:=GG (ak:=f.ak) c d b;have i:(f.aR.length:Int)*k<=n*k:=Int.mul_le_mul_of_nonneg_right V c;have:((a.length+1:Nat):Int)*(n*k)=a.length*(n*k)+n*k:=by push_cast;rw[Zq];omega
  simp only[fE,aZ];omega
section
variable{m:E}{d p aS a b:O}{c:cR}{s:St}
def IQ(H:gD m aS a b s)(Q:yO s)(hd:s.ao.length<=41):dt cq 64 [KB s aS a b] m (OC s.heap s.ao):=by
 apply Dh;simp -zeta only[aD,aC];intro j;have y:J m j:=(J.az m).aJ _;have s1:j.size=m.size+1:=by simp[j]
 clear_value j;have hl:=H.heap.len;have av:=Q.lh;have ar:=H.ao.len;have en:Int.toNat (a.len:Int)=s.heap.length:=V;rw[en];refine⟨V,V,V,V,?_⟩;intro W;have x2:J j W:=(J.az j).aJ _;have B2:cz W j.size aA ((tf s.heap.length (λ_=>0)).map Ce.i):=MC j _;clear_value W;have r:∀{N M':E},J j N->J N M'->eG [m.size] N M':=λP u=>u.dp λz r=>P.lt (by simp at r;omega);have ac:=λf A=>(Q.lr f A).2.2;refine dV (n:=s.ao.length) V (λi x=>J j x/\cz x j.size aA ((tf s.heap.length (λc=>dH (s.ao.take i) c)).map Ce.i)/\∀f∈s.ao.take i,∀w∈f.ba,w=0\/(1000<=w/\ix w<s.heap.length)) ⟨x2,by simpa[dH]using B2,aL⟩ ?_;rintro i m3 am μ hi ⟨D,K,T⟩ al
 refine dit (λP=>?_) λP=>?_
 .let⟨f,A⟩:=cG s.ao i;have R:=aq A;have au:=ac f R;have ag:(∃w∈f.ba,¬(w=0\/(1000<=w/\ix w<s.heap.length)))->¬OC s.heap s.ao:=λ⟨w,h,e⟩ v=>e (v.cL f R w h);refine dV (n:=f.ba.length) V (λk x=>J j x/\cz x j.size aA ((tf s.heap.length (λc=>dH (s.ao.take i) c+eB (f.ba.take k) c)).map Ce.i)/\∀w∈f.ba.take k,w=0\/(1000<=w/\ix w<s.heap.length)) ⟨D,by simpa[eB]using K,aL⟩ ?_;rintro k o M ν v ⟨F,G,t⟩ C;obtain⟨az,ay,q,_,_,he,_,_,_,_,_,g5⟩:=(H.ext (y.trans F)).ao.aH A;have ap:=he.len;refine⟨V,V,q,by simpa using g5,dit (λu=>?_) λu=>?_⟩
  .let⟨w,h⟩:=cG f.ba k;have U:=aq h;have ak:=(Q.ao f R).2.2 w U;refine⟨V,V,q,by simpa using g5,V,V,w,by simpa using he.aH h,λp=>?_,λp=>?_⟩
   .have I:w≠0:=by simpa using p
    refine(dW _ _).mono ?_;rintro _ m5 ⟨b5,rfl,aa,Y⟩;have X:=F.trans Y;refine⟨r F Y,b5,rfl,λl=>bV (ag ⟨w,U,λe=>?_⟩) (y.trans X),λl=>?_⟩
    .rcases e with e|e
     .exact I e
     .exact nb aa l e.1
    have ah:=yb aa l;have ao:=ak.2;have e1:cQ (w -1000)=(ix w:Nat):=by unfold ix;rw[aQ V V];omega
    have e2:Int.toNat ((ix w:Nat):Int)=ix w:=V;rw[e1,e2,show cQ ((a.len:Int) -1)=(a.len:Int) -1 from aQ V V];refine(aX _ _ _ _).mono ?_;rintro _ m6 ⟨b6,rfl,ab,Z⟩;have ai:=X.trans Z;refine⟨r X Z,b6,rfl,λB=>bV (ag ⟨w,U,λe=>?_⟩) (y.trans ai),λB=>?_⟩
    .rcases e with e|e
     .exact I e
     .exact nb ab B ⟨V,V⟩
    have ax:=yb ab B;have S:ix w<s.heap.length:=V;have L:=G.ext (Y.trans Z);simp only[O.gJ,O.jF,O.nh,bT,eS];have q1:=Lt (a:=s.ao.take i) (n:=10000000) (λaj hg=>ac aj (dB hg)) (ix w);have q2:=kD (f.ba.take k) (ix w);have q3:=wc (s.ao.take i) (ix w);have q4:=iG (f.ba.take k) (ix w);have q5:(s.ao.take i).length<=41:=bF;have q6:(f.ba.take k).length<=10000000:=bF;refine⟨V,V,_,ua L S,V,V,On L S,?_⟩;rw[show cQ (dH (s.ao.take i) (ix w)+eB (f.ba.take k) (ix w)+1)=dH (s.ao.take i) (ix w)+eB (f.ba.take k) (ix w)+1 from aQ V V];have B7:=Jn L (ix w) (dH (s.ao.take i) (ix w)+eB (f.ba.take k) (ix w)+1);rw[fF (g:=λc=>dH (s.ao.take i) c+eB (f.ba.take (k+1)) c)]at B7
    .refine⟨λz r=>bd _ _ _ _ (by simp at r;omega),C V _ ⟨ai.ah (ad _) _ _,B7,bC h t (Or.inr ⟨ah,S⟩)⟩⟩
    .intro z r;rw[rH h];by_cases q:z=ix w
     .subst q;rw[an rfl,an (iy ah).symm];omega
     .rw[ae q,ae (λaj=>q (by rw[aj,lD]))];omega
   .have I:w=0:=by simpa using p
    refine C V o ⟨F,?_,bC h t (Or.inl I)⟩;rw[fF (g:=λc=>dH (s.ao.take i) c+eB (f.ba.take k) c)]
    .exact G
    .intro z r;rw[rH h,ae V];omega
  .have I:f.ba.take k=f.ba:=bY V;rw[I]at G t;refine al V o ⟨F,?_,bC A T t⟩
   rw[fF (g:=λc=>dH (s.ao.take i) c+eB f.ba c)]
   .exact G
   .intro z r;exact Lu A z
 .have I:s.ao.take i=s.ao:=bY V;rw[I]at K T;simp only[O.gJ,O.jF,O.nh,bT,eS];refine dV (n:=s.heap.length) V (λk x=>x=m3/\∀(c:Nat)(h:bN),c<k->s.heap[c]? =some h->(h.aP<0->dH s.ao c=1)/\(0<=h.aP->dH s.ao c=0)) ⟨rfl,λc h S=>absurd S (eX _)⟩ ?_;rintro k o M ν v ⟨rfl,t⟩ C;refine⟨λu=>?_,λu=>?_⟩
  .have U:k<s.heap.length:=by first|omega|(simp at u;omega)
   let⟨h,q⟩:=dC U;obtain⟨f,_,g1,_,_⟩:=(H.ext (y.trans D)).heap.aH q;have X:Int.toNat (k:Int)=k:=V;rw[X];have L:=ua K U;have ic:(h.aP<0->dH s.ao k=1)/\(0<=h.aP->dH s.ao k=0)->∀(c:Nat)(h:bN),c<k+1->s.heap[c]? =some h->(h.aP<0->dH s.ao c=1)/\(0<=h.aP->dH s.ao c=0):=λe c d S hd=>by
    rcases aW c k with R|R
    .exact t c d R hd
    .have:c=k:=V;subst this;rw[q]at hd;simp at hd;subst hd;exact e
   have Ng:(h.aP<0->dH s.ao k=1)->(0:Int)<=(k:Int)/\(k:Int)<(a.len:Int)/\∃w:Int,af o a.D (a.off+k*3)=some (vi w)/\
    ((decide (w>=(0:Int)))=true->(0:Int)<=(k:Int)/\(k:Int)<(s.heap.length:Int)/\∃F:Int,af o j.size k=some (vi F)/\
    ((F !=(0:Int))=true->∃G:Bool,vb false=.bool G/\(G=true<->OC s.heap s.ao)/\J m o)/\((F !=(0:Int))=false->M (cQ ((k:Int)+1)) o/\ν (cQ ((k:Int)+1)) o<ν k o))/\
    ((decide (w>=(0:Int)))=false->M (cQ ((k:Int)+1)) o/\ν (cQ ((k:Int)+1)) o<ν k o):=λe=>by
    refine⟨V,V,_,g1,λp=>⟨V,V,_,L,λl=>bV (λv=>?_) (y.trans D),λl=>C V _ ⟨rfl,ic ⟨e,λ_=>by simpa using l⟩⟩⟩,λp=>C V _ ⟨rfl,ic ⟨e,λB=>by simp at p;omega⟩⟩⟩
    have:=v.nt k h q (by simpa using p)
    simp at l;exact l this
   refine⟨V,V,_,g1,λp=>⟨V,V,_,L,λl=>bV (λv=>?_) (y.trans D),λl=>Ng λ_=>by simpa using l⟩,λp=>Ng λB=>by simp at p;omega⟩;have:=v.lj k h q (by simpa using p);simp at l;exact l this
  .have l:s.heap.length<=k:=by first|omega|(simp at u;omega)
   exact iS ⟨T,λc h q e=>(t c h (oh (aw q)) q).1 e,λc h q e=>(t c h (oh (aw q)) q).2 e⟩ (y.trans D)
end
end
section
def PQ(a:Int):(a==(0:Int))=decide (a=0):=by by_cases h:a=0<;>simp[h]
def FT(a b:Int):(!((a==(0:Int))==(b==(0:Int))))=false<->(a=0<->b=0):=by
 rw[PQ,PQ];by_cases c:a=0<;>by_cases d:b=0<;>simp[c,d]
section
variable{m:E}{d p aS c b:O}{a:cR}{s:St}
structure Tt(h:List bN)(fs:List aY):Prop where
 len:∀f∈fs,f.aR.length=f.ak.length
 ak:∀f∈fs,HT h f
def Tt.aR{h:List bN}{a:List aY}(H:Tt h a){f:aY}(b:f∈a):∀o∈f.aR,0<=o/\o<=999999:=λo d=>by
 let⟨k,c⟩:=List.mem_iff_getElem?.1 d;let⟨w,e⟩:=cG f.ak k (PA (aw c) (H.len f b));exact((H.ak f b).dA k w o e c).2.1
def Jc(y:gD m aS c b s)(C:yO s)(hd:s.ao.length<=41)(H:Tt s.heap s.ao):TH 120 [KB s aS c b] m (tf s.heap.length (fE s.ao)):=by
 apply Dt;simp -zeta only[aD,aC];intro d;have o:J m d:=(J.az m).aJ _;have s1:d.size=m.size+1:=by simp[d]
 clear_value d;have hl:=y.heap.len;have aB:=C.lh;have ay:=y.ao.len;have en:Int.toNat (c.len:Int)=s.heap.length:=V;rw[en];refine⟨V,V,V,V,?_⟩;intro A;have x2:J d A:=(J.az d).aJ _;have B2:cz A d.size aA ((tf s.heap.length (λ_=>0)).map Ce.i):=MC d _;have s2:A.size=d.size+1:=by simp[A]
 clear_value A;refine dV (n:=s.ao.length) V (λi j=>J d j/\d.size<j.size/\cz j d.size aA ((tf s.heap.length (λe=>fE (s.ao.take i) e)).map Ce.i)) ⟨x2,V,by simpa[fE]using B2⟩ ?_;rintro i S ar μ hi ⟨B,z3,I⟩ am
 refine dit (λh1=>?_) λh1=>?_
 .let⟨f,v⟩:=cG s.ao i;have x:=aq v;have aE:=C.lr f x;let⟨ag,G,u,hr,P,he,g0,g1,g2,Y,Z,g5⟩:=(y.ext (o.trans B)).ao.aH v;have aI:=hr.len;have aG:=P.len;have az:=H.len f x;have ei:Int.toNat (i:Int)=i:=V;rw[ei];refine⟨V,V,_,g0,_,g1,_,g2,ag,Y,G,Z,u,g5,?_⟩;intro m4 l;have x5:J S l:=((J.az S).aJ _).ah (ad _) _ _;have s5:l.size=S.size+1:=by simp[l,m4,av]
  clear_value l;have ao:=B.trans x5;refine dV (n:=f.aR.length) V (λa j=>J d j/\l.size<=j.size/\(∀h,h<l.size->h≠d.size->j[h]? =l[h]?)/\cz j d.size aA ((tf s.heap.length (λe=>fE (s.ao.take i) e+de (f.ak.take a) (f.aR.take a) e)).map Ce.i)) ⟨ao,ad _,λ_ _ _=>rfl,by simpa[de]using(I.ext x5)⟩ ?_;rintro a F au ν hk ⟨t,z6,X,p⟩ ac;refine dit (λh2=>?_) λh2=>?_
  .let⟨w,z⟩:=cG f.ak a;let⟨q,E⟩:=cG f.aR a;have R:=(H.ak f x).dA a w q z E;obtain⟨r',o',e',aH,aF,ax,_,_,_,_,y4,_⟩:=(y.ext (o.trans t)).ao.aH v;have lb:∀{sl:O}{ab:List Int},ap m sl ab->ab≠[]->sl.D<m.size:=λah D=>iJ ah D;obtain⟨U,T,e0,aj,ai,_,_,_,_,w3,w4,_⟩:=y.ao.aH v;have er:U=ag:=by have:=(o.trans B).af w3;rw[Y]at this;exact(O.Cc.1 (jO this)).symm
   have eo:T=G:=by have:=(o.trans B).af w4;rw[Z]at this;exact(O.Cc.1 (jO this)).symm
   subst er;subst eo;have gq:af F T.D (T.off+Int.toNat (a:Int)*1)=some (vi q):=by simpa using(ai.ext (o.trans t)).aH E
   have gw:af F U.D (U.off+Int.toNat (a:Int)*1)=some (vi w):=by simpa using(aj.ext (o.trans t)).aH z
   refine⟨V,V,q,gq,λM=>?_,λM=>?_⟩
   .have Q:0<q:=by simpa using M
    have N:=R.2.2 Q;have aa:=aw (bS N).1;have K:cQ (w -1000)=(ix w:Nat):=by have:=N.1;have:=((C.ao f x).1 w (aq z)).2;unfold ix;rw[aQ V V];omega
    have L:Int.toNat ((ix w:Nat):Int)=ix w:=V;refine⟨V,V,w,gw,V,V,w,gw,?_⟩;rw[K,L];simp only[O.gJ,O.jF,O.nh,bT,eS];have q1:=KH (a:=s.ao.take i) (n:=10000000) (k:=999999) V (λW r=>⟨(C.lr W (dB r)).2.1,H.aR (dB r)⟩) (ix w);have q2:=GG (ak:=f.ak.take a) (aR:=f.aR.take a) (n:=999999) V (λG P=>H.aR x G (dB P)) (ix w);have q5:(s.ao.take i).length<=41:=bF;have q6:(f.aR.take a).length<=10000000:=bF;have q7:=R.2.1;refine⟨V,V,_,ua p aa,V,V,q,by simpa using gq,V,V,On p aa,?_⟩;rw[show cQ (fE (s.ao.take i) (ix w)+de (f.ak.take a) (f.aR.take a) (ix w)+q)=fE (s.ao.take i) (ix w)+de (f.ak.take a) (f.aR.take a) (ix w)+q from aQ V V];have W:=Jn p (ix w) (fE (s.ao.take i) (ix w)+de (f.ak.take a) (f.aR.take a) (ix w)+q);rw[fF (g:=λe=>fE (s.ao.take i) e+de (f.ak.take (a+1)) (f.aR.take (a+1)) e)]at W
    .refine⟨λh r=>bd _ _ _ _ (by simp at r;omega),ac V _ ⟨t.ah (ad _) _ _,by rw[av];exact z6,λh r D=>by rw[bd _ _ _ _ D];exact X h r D,W⟩⟩
    .intro h r;rw[tI z E];by_cases u:h=ix w
     .subst u;rw[an rfl,an (iy N.1).symm];omega
     .rw[ae u,ae (λal=>u (by rw[al,lD]))];omega
   .have Q:q=0:=by have:=R.2.1.1;simp at M;omega
    refine ac V F ⟨t,z6,X,?_⟩;rw[fF (g:=λe=>fE (s.ao.take i) e+de (f.ak.take a) (f.aR.take a) e)]
    .exact p
    .intro h r;rw[tI z E,Q];split<;>omega
  .have K:f.ak.take a=f.ak:=bY V;have L:f.aR.take a=f.aR:=bY V;rw[K,L]at p;refine am V F ⟨t,V,?_⟩
   rw[fF (g:=λe=>fE (s.ao.take i) e+de f.ak f.aR e)]
   .exact p
   .intro h r;exact Od v h
 .have a:s.ao.take i=s.ao:=bY V;rw[a]at I;exact⟨_,rfl,Pq I V,o.trans B⟩
def Dc(j:gD m aS c b s)(i:yO s)(hd:s.ao.length<=41)(H:Tt s.heap s.ao)(h:∀a∈s.heap,oK s.heap a):
 dt cq 65 [KB s aS c b] m (∀(e:Nat)(a:bN),s.heap[e]? =some a->0<a.aP->a.aP=eu s.heap e+fE s.ao e):=by
 apply xR
 simp -zeta only[aD,aC]
 intro l
 have v:J m l:=(J.az m).aJ _
 have Z:l.size=m.size+1:=by simp[l]
 clear_value l
 have R:=j.heap.len
 have S:=i.lh
 refine(BE (j.ext v).heap h i.heap V).mono ?_
 rintro _ T ⟨O,rfl,C,o⟩
 have z2:=o.size
 refine⟨o.dp bF,O,rfl,(Jc (j.ext (v.trans o)) i hd H).mono ?_⟩
 rintro _ M ⟨N,rfl,A,w⟩
 have K:=C.len
 have I:=A.len
 rw[oH]at K I
 have p:=(v.trans o).trans w
 refine⟨w.dp bF,N,rfl,?_⟩
 refine dV (n:=s.heap.length) V (λf L=>L=M/\∀(e:Nat)(a:bN),e<f->s.heap[e]? =some a->0<a.aP->a.aP=eu s.heap e+fE s.ao e) ⟨rfl,λe a y=>absurd y (eX _)⟩ ?_
 rintro f U P μ z ⟨rfl,B⟩ D
 refine dit (λF=>?_) λF=>?_
 .have t:f<s.heap.length:=V
  let⟨a,r⟩:=dC t
  obtain⟨Q,_,g1,_,_⟩:=(j.ext p).heap.aH r
  have E:Int.toNat (f:Int)=f:=V
  rw[E]
  have ic:(0<a.aP->a.aP=eu s.heap f+fE s.ao f)->∀(e:Nat)(a:bN),e<f+1->s.heap[e]? =some a->0<a.aP->a.aP=eu s.heap e+fE s.ao e:=λu e d y hd=>by
   rcases aW e f with x|x
   .exact B e d x hd
   .have:e=f:=V;subst this;rw[r]at hd;simp at hd;subst hd;exact u
  have W:=Cp s.heap f λa G=>(h a G).fl
  have X:=rm s.heap f
  have Y:=KH (a:=s.ao) (n:=10000000) (k:=999999) V (λq g=>⟨(i.lr q g).2.1,H.aR g⟩) f
  refine⟨V,V,_,g1,λq=>?_,λq=>D V _ ⟨rfl,ic λg=>by simp at q;omega⟩⟩
  refine⟨V,V,_,g1,V,V,_,(C.ext w).aH (vm t),V,V,_,A.aH (vm t),?_⟩
  rw[show cQ (eu s.heap f+fE s.ao f)=eu s.heap f+fE s.ao f from aQ V V]
  refine⟨λg=>bV (λz=>?_) p,λg=>D V _ ⟨rfl,ic λ_=>by simpa using g⟩⟩
  have:=z f a r (by simpa using q)
  simp at g;exact g this
 .exact iS (λe a h u=>B e a (oh (aw h)) h u) p
def Ft(ae:fj m d p a)(x:gD m aS c b s)(G:yO s):dt cq 34 [.agg #[O.v d,O.v p],KB s aS c b] m (cX a s):=by
 apply zL;simp -zeta only[aD,aC];intro H l;have o:J m l:=((J.az m).aJ _).aJ _;have s1:H.size=m.size+1:=by simp[H]
 have s2:l.size=m.size+2:=by simp[l,s1]
 clear_value l;have k:∀af∈[H.size,m.size],af<l.size:=bF;have ak:=x.ao.len;have h:∀{M:E},J l M->¬NI a s->∃q:Bool,vb false=.bool q/\(q=true<->cX a s)/\J m M:=λU hn=>bV (λe=>hn (ON e)) (o.trans U);refine(tW (ae.ext o)).aG (J.az _) k λb3 m3 Z x3 _=>⟨b3,rfl,λL=>h x3 λe=>nb Z L e.fm,λL=>?_⟩;have hi:=yb Z L;refine(aX _ _ _ _).aG x3 k λb4 m4 aa ay X=>⟨b4,rfl,λN=>h X λe=>nb aa N e.cB,λN=>?_⟩;have an:=yb aa N;have ac:(s.ao=[])<->((b.len:Int)=0):=by rw[ak];simp
 refine⟨λP=>h X λe=>?_,λP=>?_⟩
 .have:=e.done;rw[ac,<-FT]at this;rw[this]at P;cases P
 have aj:s.cB=0<->s.ao=[]:=by rw[ac];exact(FT _ _).1 P
 refine⟨λM=>J l M/\gR s.value/\(s.value≠0->s.cB=0)/\(0<=s.dT/\s.dT<=40)/\(0<=s.bu/\s.bu<=s.dT),?_,?_⟩
 .refine(aX _ _ _ _).aG X k λb5 W u y w=>⟨b5,rfl,λr=>h w λe=>nb u r e.value,λr=>?_⟩;have tail:(s.value≠0->s.cB=0)->aN cq 41 [vi s.dT,vi (0:Int),vi (40:Int)] W λv f=>eG [H.size,m.size] W f/\∃i:Bool,v=vb i/\
   ((!i)=true->∃q:Bool,vb false=.bool q/\(q=true<->cX a s)/\J m f)/\((!i)=false->aN cq 41 [vi s.bu,vi (0:Int),vi s.dT] f λt g=>
   eG [H.size,m.size] f g/\∃j:Bool,t=vb j/\((!j)=true->∃q:Bool,vb false=.bool q/\(q=true<->cX a s)/\J m g)/\
   ((!j)=false->J l g/\gR s.value/\(s.value≠0->s.cB=0)/\(0<=s.dT/\s.dT<=40)/\(0<=s.bu/\s.bu<=s.dT))):=λT=>
   (aX _ _ _ _).aG w k λb6 m6 C aq z=>⟨b6,rfl,λg=>h z λe=>nb C g e.dT,λg=>
    (aX _ _ _ _).aG z k λR m7 D ar I=>⟨R,rfl,λB=>h I λe=>nb D B e.bu,λB=>⟨I,(yb u r),T,yb C g,yb D B⟩⟩⟩
  refine⟨λt=>⟨λg=>h w λe=>?_,λg=>tail λ_=>by simpa using g⟩,λt=>tail λg=>absurd (by simpa using t) g⟩;have:=e.ug (by simpa using t);simp at g;exact g this
 .rintro W ⟨w,hv,T,al,ah⟩;rw[aQ V V];refine⟨λr=>h w λe=>by have:=e.depth;simp at r;omega,λr=>?_⟩;have ai:(s.ao.length:Int)<=s.bu+1:=by simp at r;omega
  have ab:s.ao.length<=41:=V;refine(EF (x.ext (o.trans w)).aS).aG w k λb6 m6 C aq z=>⟨b6,rfl,λt=>h z λe=>nb C t e.aS,λt=>?_⟩;have am:=yb C t;refine(Hv (x.ext (o.trans z)).heap G.heap (oh G.lh)).aG z k λR m7 D ar I=>⟨R,rfl,λg=>h I λe=>nb D g e.heap,λg=>?_⟩;have ad:=yb D g;refine dV (n:=s.ao.length) V (λy m'=>J l m'/\∀(j:Nat)(f:aY),j<y->s.ao[j]? =some f->KM a s.heap (nJ s.ao j) f) ⟨I,λj f v=>absurd v (eX _)⟩ ?_;rintro y m8 av μ e ⟨K,hq⟩ ao
  refine dit (λB=>?_) λB=>?_
  .let⟨f,i⟩:=cG s.ao y;refine(Fo (ae.ext (o.trans K)) (x.ext (o.trans K)) G i).aG K k λS m9 F au A=>⟨S,rfl,λu=>h A λe=>nb F u (e.ao y f i),λu=>ao V _ ⟨A,λj ag v Q=>?_⟩⟩;rcases aW j y with Y|Y
   .exact hq j ag Y Q
   .have:j=y:=V;subst this;rw[i]at Q;simp at Q;subst Q;exact yb F u
  .have Q:∀(j:Nat)(f:aY),s.ao[j]? =some f->KM a s.heap (nJ s.ao j) f:=λj f i=>hq j f (oh (aw i)) i;have Y:Tt s.heap s.ao:=⟨λf i=>by
    let⟨j,v⟩:=wy i;have L:=(Q j f v).lr;have N:=(Q j f v).lo;omega,λf i=>let⟨j,v⟩:=wy i;(Q j f v).ak⟩
   refine(IQ (x.ext (o.trans K)) G ab).aG K k λS m9 F au A=>⟨S,rfl,λu=>?_,λu=>h A λe=>fb F u e.ba⟩;refine(Dc (x.ext (o.trans A)) G ab Y ad.cells).aG A k λv ax ag az ap=>⟨v,rfl,eV ?_ (o.trans ap)⟩;rw[ag];exact⟨λU=>MB ⟨hi,an,aj,hv,T,al,ah,ai,am,ad,Q,F.1 u,U⟩,λe=>(ON e).Q3⟩
end
end
section
variable{m:E}{b:List bN}{w:Int}{d:bN}{a:Nat}{W:List Nat}
def rc(n:Int)(m:E):dt cq 76 [vi n] m (gR n):=by
 apply If;refine⟨λb=>eV ?_ (J.az _),λb=>bV (λa=>?_) (J.az _)⟩
 .simp at b;simp[gR,b]
 .simp at b;have:=a.1;omega
def Gu{f:O}(d:cW m f b)(j:HN w):dt cq 196 [O.v f,vi w] m (qM b w):=by
 apply Au;refine(iv d j.2).mono ?_;rintro _ k ⟨a,h,rfl,e,_,g⟩;refine⟨a,h,rfl,λc=>iS (Or.inr (e.1 c)) g,λc=>?_⟩;refine(rc w k).then λb2 n i l=>⟨b2,rfl,eV ?_ (g.trans l)⟩;rw[i];exact⟨Or.inl,λd=>d.resolve_right (fb e c)⟩
structure Jv(b:List bN)(d:bN):Prop where
 lo: -1<=d.aP
 km:0<=d.km/\d.km<=99
 fl:d.aF.length<=3
 xp:d.aP<1->d.km=0
 je:d.aP=0->d.aF=[]
 cL:∀w∈d.aF,qM b w/\(d.aP<0->w=0)
def Jv.ok(a:Jv b d)(e:d.aP<=999999):oK b d:=
 ⟨a.fl,a.lo,e,λhd=>⟨a.xp hd,λw c=>by
  by_cases f:d.aP<0
  .exact(a.cL w c).2 f
  .rw[a.je V]at c;simp at c,a.je⟩,λ_=>⟨λw c=>(a.cL w c).1,a.km⟩⟩
def oK.v(a:oK b d):Jv b d:=by
 refine⟨a.lo,?_,a.fl,λhd=>(a.xp hd).1,λf=>(a.xp V).2.2 f,λw e=>⟨?_,λg=>(a.xp V).2.1 w e⟩⟩
 .by_cases c:0<d.aP
  .exact(a.ph c).2
  .have:=(a.xp V).1;omega
 .by_cases c:0<d.aP
  .exact(a.ph c).1 w e
  .have:=(a.xp V).2.1 w e;exact Or.inl (by subst this;exact⟨bh,bh⟩)
def Jv.cases(c:Jv b d)(e:w∈d.aF):gB b w\/w<1000:=by
 rcases(c.cL w e).1 with a|a
 .have:=a.2;exact Or.inr V
 .exact Or.inl a
def Gi{z j:O}(E:cW m z b)(x:ap m j d.aF)(G:∀w∈d.aF,HN w):dt cq 152 [O.v z,.agg #[vi d.aP,vi d.km,O.v j]] m (Jv b d):=by
 apply Am;simp -zeta only[aD,aC];intro e;have f:J m e:=(J.az m).aJ _;have N:e.size=m.size+1:=by simp[e]
 clear_value e;have y:=x.len;have F:∀C∈[m.size],C<e.size:=bF;refine⟨λk=>bV (λc=>by have:=c.lo;simp at k;omega) f,λk=>⟨λl=>bV (λc=>by have:=c.km;simp at l;omega) f,λl=>⟨λo=>bV (λc=>by have:=c.km;simp at o;omega) f,λo=>⟨λr=>bV (λc=>by have:=c.fl;simp at r;omega) f,λr=>?_⟩⟩⟩⟩;simp at k l o r;refine⟨λM=>M=e/\(d.aP<1->d.km=0)/\(d.aP=0->d.aF=[]),?_,?_⟩
 .have zero:(d.aP<1->d.km=0)->((d.aP==(0:Int))=true->((decide ((j.len:Int)>(0:Int)))=true->∃a:Bool,vb false=.bool a/\(a=true<->Jv b d)/\J m e)/\
   ((decide ((j.len:Int)>(0:Int)))=false->e=e/\(d.aP<1->d.km=0)/\(d.aP=0->d.aF=[])))/\((d.aP==(0:Int))=false->e=e/\(d.aP<1->d.km=0)/\(d.aP=0->d.aF=[])):=λh=>
   ⟨λg=>⟨λa=>bV (λc=>by have:=c.je (by simpa using g);rw[this]at y;simp at a y;omega) f,λa=>⟨rfl,h,λ_=>List.length_eq_zero_iff.1 (by simp at a;omega)⟩⟩,λg=>⟨rfl,h,λa=>by simp at g;exact absurd a g⟩⟩
  refine⟨λg=>⟨λa=>bV (λc=>by have:=c.xp (by simpa using g);simp at a;exact a this) f,λa=>zero λ_=>by simpa using a⟩,λg=>zero λa=>by simp at g;omega⟩
 .rintro H ⟨rfl,hd,D⟩;refine dV (n:=d.aF.length) V (λv h=>J H h/\∀w∈d.aF.take v,qM b w/\(d.aP<0->w=0)) ⟨J.az _,aL⟩ ?_;rintro v L I μ K ⟨q,u⟩ B
  refine dit (λg=>?_) λg=>?_
  .let⟨w,h⟩:=cG d.aF v;refine⟨V,V,w,by simpa using(x.ext (f.trans q)).aH h,(Gu (cW.ext (f.trans q) E) (G w (aq h))).aG q F λb4 A t P p=>⟨b4,rfl,λa=>bV (λc=>nb t a (c.cL w (aq h)).1) (f.trans p),λa=>⟨λs=>⟨λi=>bV (λc=>?_) (f.trans p),λi=>B V A ⟨p,bC h u ⟨yb t a,λ_=>by simpa using i⟩⟩⟩,λs=>B V A ⟨p,bC h u ⟨yb t a,λi=>by simp at s;omega⟩⟩⟩⟩⟩;have:=(c.cL w (aq h)).2 (by simpa using s);simp at i;exact i this
  .exact iS ⟨k,⟨l,o⟩,V,hd,D,db V u⟩ (f.trans q)
def ij(mk:Nat->Bool):Nat->List bN->Nat->Int
 |_,[],_=>0
 |i,d::b,a=>(if mk i=true then 0 else eB d.aF a)+ij mk (i+1) b a
def EB:∀(i:Nat)(b:List bN)(a:Nat),ij (λ_=>false) i b a=eu b a
 |_,[],_=>rfl
 |i,d::b,a=>by simp[ij,eu,EB (i+1) b a]
def GH(mk:Nat->Bool):∀(i:Nat)(b:List bN)(a:Nat),0<=ij mk i b a
 |_,[],_=>dw 0
 |i,d::b,a=>by have:=GH mk (i+1) b a;have:=iG d.aF a;simp only[ij];split<;>omega
def Qk(mk:Nat->Bool):∀(i:Nat)(b:List bN)(a:Nat),ij mk i b a<=eu b a
 |_,[],_=>dw 0
 |i,d::b,a=>by have:=Qk mk (i+1) b a;have:=iG d.aF a;simp only[ij,eu];split<;>omega
def JO{mk e:Nat->Bool}:∀{i:Nat}{b:List bN}{a:Nat},(∀j,i<=j->mk j=e j)->ij mk i b a=ij e i b a
 |_,[],_,_=>rfl
 |i,d::b,a,c=>by simp only[ij];rw[c i (ad _),JO λj f=>c j V]
def Og{mk:Nat->Bool}:∀{e:Nat}{b:List bN}{f:Nat}{d:bN},b[f]? =some d->mk (e+f)=false->∀a,ij (mR mk (e+f)) e b a=ij mk e b a -eB d.aF a
 |_,[],_,_,b,_,_=>by simp at b
 |e,m::b,0,d,j,l,a=>by
  simp at j;subst j;have g:=JO (mk:=mR mk e) (e:=mk) (i:=e+1) (b:=b) (a:=a) λo n=>pZ V;rw[jJ]at l⊢;simp only[ij,Cs,l,g];simp;omega
 |e,m::b,f+1,d,j,l,a=>by
  have g:e+(f+1)=e+1+f:=V;have:=Og (mk:=mk) (e:=e+1) (b:=b) (f:=f) (d:=d) (by simpa using j) (by rw[<-g];exact l) a;simp only[ij];rw[g,this,pZ V];omega
def Qj{mk:Nat->Bool}:∀{e:Nat}{b:List bN}{j:Nat}{d:bN},b[j]? =some d->mk (e+j)=false->∀a,eB d.aF a<=ij mk e b a
 |_,[],_,_,b,_,_=>by simp at b
 |e,l::b,0,d,f,g,a=>by
  simp at f;subst f;have:=GH mk (e+1) b a;simp only[jJ]at g;simp only[ij,g];simp;omega
 |e,l::b,j+1,d,f,g,a=>by
  have:=Qj (mk:=mk) (e:=e+1) (b:=b) (j:=j) (d:=d) (by simpa using f) (by rw[<-g];congr 1;omega) a;have:=iG l.aF a;simp only[ij];split<;>omega
def Of{mk:Nat->Bool}:∀{i:Nat}{b:List bN}{a:Nat},0<ij mk i b a->∃(k:Nat)(d:bN),b[k]? =some d/\mk (i+k)=false/\(1000+(a:Int))∈d.aF
 |_,[],_,b=>by simp[ij]at b
 |i,c::b,a,g=>by
  simp only[ij]at g;by_cases f:mk i=false/\0<eB c.aF a
  .exact⟨0,c,rfl,f.1,O8 f.2⟩
  .have:0<ij mk (i+1) b a:=by
    have:=iG c.aF a;split at g
    .omega
    .rename_i h;have:¬0<eB c.aF a:=λe=>f ⟨by simpa using h,e⟩;omega
   let⟨k,d,h,e,j⟩:=Of this;exact⟨k+1,d,by simpa using h,by rw[<-e];congr 1;omega,j⟩
def TB(b:List bN)(mk:Nat->Bool):Prop:=
 ∃t:Nat->Nat,(∀j,mk j=true->t j<=mK mk b.length)/\∀(i:Nat)(d:bN),b[i]? =some d->∀w∈d.aF,1000<=w->mk (ix w)=true->mk i=true/\t i<t (ix w)
def TB.set{mk:Nat->Bool}(u:TB b mk)(t:a<b.length)(k:mk a=false)(B:ij mk 0 b a=0):TB b (mR mk a):=by
 let⟨A,n,s⟩:=u;have r:=Ad k t;have v:∀(c:Nat)(d:bN),b[c]? =some d->(1000+(a:Int))∈d.aF->mk c=true:=λc d f g=>by
  cases e:mk c
  .have g1:=Qj (mk:=mk) (e:=0) f (by rw[bT];exact e) a;have g2:=uW g;omega
  .rfl
 refine⟨λx=>if x=a then mK mk b.length+1 else A x,λy o=>?_,λc d f w g q p=>?_⟩
 .simp only[r];split
  .omega
  .rename_i h;rw[pZ h]at o;have:=n y o;omega
 .by_cases h:ix w=a
  .have e:=v c d f (by rw[<-h,iy q];exact g);have l:c≠a:=λj=>by rw[j,k]at e;cases e
   simp only[an h,ae l];exact⟨Ct e,oh (n c e)⟩
  .rw[pZ h]at p;let⟨m,z⟩:=s c d f w g q p;have l:c≠a:=λj=>by rw[j,k]at m;cases m
   simp only[ae h,ae l];exact⟨Ct m,z⟩
def PR(f:Nat->Nat):∀n,∃B,∀i,i<n->f i<=B
 |0=>⟨0,λi a=>absurd a (eX _)⟩
 |n+1=>by
  let⟨B,c⟩:=PR f n;refine⟨B+f n,λi a=>?_⟩;rcases aW i n with b|b
  .have:=c i b;omega
  .have:i=n:=V;subst this;omega
def Vt{mk:Nat->Bool}(r:TB b mk)(q:∀d∈b,∀w∈d.aF,1000<=w->ix w<b.length)(o:∀a,a<b.length->ij mk 0 b a=0->mk a=true):
 mK mk b.length=b.length<->Tq b:=by
 rw[K6]
 constructor
 .intro g
  let⟨t,e,c⟩:=r
  refine⟨λx=>b.length -t x,λi d h w j f=>?_⟩
  have k:=q d (aq h) w j f
  have:=(c i d h w j f (g _ k)).2
  have:=e _ (g _ k)
  have:=FY mk b.length
  show b.length -t (ix w)<b.length -t i
  omega
 .rintro⟨h,s⟩
  let⟨B,m⟩:=PR h b.length
  have u:∀(n i:Nat),B -h i<n->i<b.length->mk i=true:=by
   intro n;induction n with
   |zero=>intro i g;omega
   |succ n t=>
    intro i g p;refine o i p (Int.le_antisymm (Int.not_lt.1 λf=>?_) (GH _ _ _ _));let⟨k,d,e,c,l⟩:=Of f;rw[bT]at c;have:=s k d e _ l V;rw[lD]at this;have j:=aw e;have:=m k j;rw[t k V j]at c;cases c
  exactλi g=>u (B -h i+1) i V g
structure HO(b:List bN)(mk:Nat->Bool)(W:List Nat)(lf:Nat->Int):Prop where
 LO:W.Nodup
 un:∀a∈W,a<b.length/\mk a=false
 zero:∀a,a<b.length->(lf a=0<->(mk a=true\/a∈W))
def Gz:∀(n:Nat)(W:List Nat),W.Nodup->(∀a∈W,a<n)->W.length<=n
 |0,[],_,_=>ad _
 |0,a::_,_,b=>absurd (b a aL) (eX _)
 |n+1,W,hd,b=>by
  by_cases d:n∈W
  .have e:=Gz n (W.erase n) (hd.erase n) λa c=>by
    have:=hd.mem_erase_iff.1 c;have:=b a this.2;omega
   rw[List.length_erase_of_mem d]at e;omega
  .have:=Gz n W hd λa c=>by
    have:=b a c;have:a≠n:=λe=>d (e▸c);omega
   omega
def HO.len{mk:Nat->Bool}{d:Nat->Int}(K:HO b mk W d):W.length<=b.length:=Gz _ _ K.LO λa c=>(K.un a c).1
def HO.Vw{mk:Nat->Bool}{f:Nat->Int}(K:HO b mk (W++[a]) f):HO b (mR mk a) W f:=by
 let⟨g,i,h⟩:=List.nodup_append.1 K.LO;refine⟨g,λx c=>?_,λx c=>?_⟩
 .have d:=K.un x (bK _ c);refine⟨d.1,?_⟩;rw[pZ λe=>h x c a aL e];exact d.2
 .rw[K.zero x c];by_cases e:x=a
  .subst e;simp[Cs]
  .rw[pZ e];simp[e]
def HO.nM{mk:Nat->Bool}{g lf':Nat->Int}(K:HO b mk W g)(i:a<b.length)(j:∀x,lf' x=if x=a then g x -1 else g x)(l:0<g a):
 (lf' a=0->HO b mk (W++[a]) lf')/\(lf' a≠0->HO b mk W lf'):=by
 have f:mk a≠true/\a∉W:=by
  have:=(K.zero a i).2;constructor
  .intro d;have:=this (Or.inl d);omega
  .intro d;have:=this (Or.inr d);omega
 refine⟨λh=>⟨?_,λx c=>?_,λx c=>?_⟩,λh=>⟨K.LO,K.un,λx c=>?_⟩⟩
 .rw[List.nodup_append]
  refine⟨K.LO,aL,λx c y k e=>?_⟩
  simp at k;subst k;subst e;exact f.2 c
 .rcases List.mem_append.1 c with c|c
  .exact K.un x c
  .simp at c;subst c;exact⟨i,by simpa using f.1⟩
 .by_cases e:x=a
  .subst e;simp[h]
  .rw[j x,ae e,K.zero x c];simp[e]
 .by_cases e:x=a
  .subst e
   constructor
   .intro d;exact absurd d h
   .rintro(d|d)
    .exact absurd d f.1
    .exact absurd d f.2
  .rw[j x,ae e,K.zero x c]
end
section
variable{b:Nat->Nat}{m:E}{k c a:Nat}{s:O}{d:Nat->Int}
def Vi(W:List Nat):List Int:=W.map λ(a:Nat)=>(a:Int)
def KE(W:List Nat):(Vi W).length=W.length:=by simp[Vi]
def Lc(W:List Nat)(a:Nat):Vi (W++[a])=Vi W++[(a:Int)]:=by simp[Vi]
def Wf(h:iL b m aA 1 k s ((tf c d).map Ce.i))(g:c<=9223372036854775807)(e:a<c):af m s.D (s.off+Int.toNat (a:Int)*1)=some (vi (d a)):=by
 have:=(h.nV (by rw[oH];exact g)).aH (vm (f:=d) e);simpa using this
def Uy(h:iL b m aA 1 k s ((tf c d).map Ce.i)):s.len=c:=by have:=h.len;simp[oH]at this;omega
def XC{g:Nat->Int}(h:iL b m aA 1 k s ((tf c d).map Ce.i))(q:a<c){v:Int}(o:∀e,e<c->g e=if e=a then v else d e)(p:∀e,m.size<=e->b e=0):
 fN m s.D (s.off+Int.toNat (a:Int)*1) 1/\iL b (ah m s.D (s.off+Int.toNat (a:Int)*1) [.i v]) aA 1 k s ((tf c g).map Ce.i)/\dm (λj=>j=k) b m b (ah m s.D (s.off+Int.toNat (a:Int)*1) [.i v]):=by
 have f:(0:Int)<=(a:Int):=V
 have i:(a:Int)<((tf c d).length:Nat):=by rw[oH];omega
 have j:=h.gV f i v
 have l:gV (tf c d) (a:Int) v=tf c g:=by
  unfold gV;rw[show Int.toNat (a:Int)=a by omega,Ss];exact fF λe n=>(o e n).symm
 rw[l]at j
 have r:=Uy h
 have t:=h.le
 exact⟨h.Oq f i,j,dm.ah p (h.D V).2 _ _⟩
def Ye(m:E)(h:List bN)(v:Value)(c:E):Prop:=∃(s:O)(b:Bool),v=.tuple #[O.v s,vb b]/\(b=true<->OB h)/\
 (b=true->∃a,s=.mk a 0 h.length h.length/\m.size<=a/\cz c a aA ((tf h.length (eu h)).map Ce.i))/\J m c
def CF{N:O}{h:List bN}(y:cW m N h)(aS:Sz h)(bm:h.length<=1000000000):aN cq 77 [O.v N] m (Ye m h):=by
 apply xy;simp -zeta only[aD,aC];have hl:=y.len;have en:Int.toNat (N.len:Int)=h.length:=V;rw[en];refine⟨V,V,V,V,?_⟩;intro m1;have x1:J m m1:=(J.az m).aJ _;have B1:cz m1 m.size aA ((tf h.length (λ_=>0)).map Ce.i):=MC m _;clear_value m1;have no:∀{M:E},J m M->¬OB h->Ye m h (.tuple #[O.v O.nil,vb false]) M:=λT G=>⟨.nil,false,rfl,by simp[G],aL,T⟩;have am:∀c:Nat,Int.toNat (c:Int)=c:=λc=>V;simp -zeta only[O.gJ,O.jF,O.nh,bT];refine dV (n:=h.length) V (λt l=>J m l/\cz l m.size aA ((tf h.length (λa=>eu (h.take t) a)).map Ce.i)/\∀e∈h.take t,Jv h e) ⟨x1,by simpa[eu]using B1,aL⟩ ?_;rintro t m2 bu μ hi ⟨Z,B2,ai⟩ X
 have bD:=B2.lt;have h3:∀e∈h.take t,e.aF.length<=3:=λe hm=>(ai e hm).fl;refine dit (λh1=>?_) λh1=>?_
 .let⟨e,r⟩:=cG h t;have ab:=aq r;let⟨d,hf,g0,g1,g2⟩:=(cW.ext Z y).aH r;rw[am];refine⟨V,V,e.aP,g0,e.km,g1,d,g2,?_⟩;intro L I;have o:J m2 I:=((J.az m2).aJ _).ah (ad _) _ _;have s4:I.size=m2.size+1:=by simp[I,L,av]
  clear_value I;refine(Gi (cW.ext (Z.trans o) y) (hf.ext o) (aS e ab)).aG (J.az _) bF λj U S s _=>⟨j,rfl,λh2=>no ((Z.trans o).trans s) λz=>nb S h2 (z.cells e ab).v,λh2=>?_⟩;have A:=yb S h2;have be:=A.fl;have z5:=s.size;have ah:=hf.len;refine dV (n:=e.aF.length) V (λk l=>J m l/\m2.size<l.size/\ap l d e.aF/\cz l m.size aA ((tf h.length (λa=>eu (h.take t) a+eB (e.aF.take k) a)).map Ce.i)) ⟨((Z.trans o).trans s),V,(hf.ext (o.trans s)),by simpa[eB]using(B2.ext (o.trans s))⟩ ?_;rintro k p aa ν z ⟨K,z6,D,l⟩ Q;refine dit (λh4=>?_) λh4=>?_
  .let⟨w,H⟩:=cG e.aF k;have au:=aq H;refine⟨V,V,w,by simpa using D.aH H,(iv (cW.ext K y) (aS e ab w au).2).mono ?_⟩;rintro _ q ⟨a,R,rfl,P,W,F⟩;have z7:=F.size;refine⟨F.dp bF,a,R,rfl,λC=>?_,λC=>?_⟩
   .have ag:=P.1 C;have ac:=aw (bS ag).1;have e1:=W C;subst e1;have x:=l.ext F;have q1:=Cp (h.take t) (ix w) h3;have q2:=kD (e.aF.take k) (ix w);have q3:=rm (h.take t) (ix w);have q4:=iG (e.aF.take k) (ix w);have q5:(h.take t).length<=h.length:=bF;have q6:(e.aF.take k).length<=3:=bF;rw[am,eS];refine⟨V,V,_,ua x ac,V,V,On x ac,?_⟩;rw[show cQ (eu (h.take t) (ix w)+eB (e.aF.take k) (ix w)+1)=eu (h.take t) (ix w)+eB (e.aF.take k) (ix w)+1 from aQ V V];have B:=Jn x (ix w) (eu (h.take t) (ix w)+eB (e.aF.take k) (ix w)+1);rw[fF (g:=λa=>eu (h.take t) a+eB (e.aF.take (k+1)) a)]at B
    .refine⟨λj S=>bd _ _ _ _ (by simp at S;omega),Q V _ ⟨(K.trans F).ah (ad _) _ _,by rw[av];omega,?_,B⟩⟩;obtain⟨f0,aR,_,_,w2⟩:=y.aH r;have er:f0=d:=by have:=Z.af w2;rw[g2]at this;exact(O.Cc.1 (jO this)).symm
     subst er;exact aR.ext ((K.trans F).ah (ad _) _ _)
    .intro j S;rw[rH H];by_cases u:j=ix w
     .subst u;rw[an rfl,an (iy ag.1).symm];omega
     .rw[ae u,ae (λY=>u (by rw[Y,lD]))];omega
   .refine Q V q ⟨K.trans F,V,D.ext F,?_⟩;have bj:w<1000:=(A.cases au).resolve_left (fb P C);rw[fF (g:=λa=>eu (h.take t) a+eB (e.aF.take k) a)]
    .exact l.ext F
    .intro j S;rw[rH H,ae V];omega
  .have x:e.aF.take k=e.aF:=bY V;rw[x]at l;refine X V p ⟨K,?_,bC r ai A⟩
   rw[fF (g:=λa=>eu (h.take t) a+eB e.aF a)]
   .exact l
   .intro j S;exact Oi r j
 have ei:h.take t=h:=bY V;rw[ei]at B2 ai h3;clear X
 have a1:∀e∈h,∀w∈e.aF,gB h w\/w<1000:=λe s w H=>(ai e s).cases H;have ag:∀e∈h,∀w∈e.aF,1000<=w->ix w<h.length:=λe hm w H N=>by
  rcases a1 e hm w H with h1|h1
  .exact aw (bS h1).1
  .omega
 refine⟨λM=>m2=M/\oE h,⟨λh2=>?_,λh2=>⟨rfl,λe s=>?_⟩⟩,?_⟩
 .simp at h2;rw[aQ V V];let⟨e,s⟩:=cG h (h.length -1);obtain⟨d,hf,g1,_,_⟩:=(cW.ext Z y).aH s;have u:Int.toNat ((N.len:Int) -1)=h.length -1:=V;rw[u];refine⟨V,V,e.aP,g1,λh3=>no Z λz=>z.jC e s (by simpa using h3),λh3=>⟨rfl,λak hd=>?_⟩⟩;rw[s]at hd;simp at hd;subst hd;simpa using h3
 .have:=aw s;simp at h2;omega
 rintro _ ⟨rfl,bn⟩;refine(eO (Pq B2 V) (by rw[oH];exact bm)).mono ?_;rintro _ L ⟨A,rfl,or,x3⟩;have z3:=x3.size;have B3:=B2.ext x3;have bJ:=Z.size;obtain⟨B,aG⟩:∃B:Nat->Nat,B=λj=>if A.Gv=false/\j=A.D then 2 else if j=m.size then 1 else 0:=⟨_,rfl⟩
 have aF:A.Gv=false->m2.size<=A.D/\A.D<L.size:=λG=>by
  have ah:A≠.nil:=λu=>by rw[u]at G;simp at G
  exact⟨or.D.resolve_left ah,or.lt.resolve_left ah⟩
 have aV:∀j,j≠m.size->(A.Gv=false->j≠A.D)->B j=0:=λj h4 C=>by
  rw[aG];exact(ae λy=>C y.1 y.2).trans (ae h4)
 have bs:B m.size=1:=by
  rw[aG];exact(ae λy=>oh (aF y.1)).trans (an rfl)
 have bp:∀j,L.size<=j->B j=0:=λj S=>aV j V λG=>by have:=aF G;omega
 have a_:∀j,j<m.size->B j=0:=λj S=>aV j V λG=>by have:=aF G;omega
 have A3:iL B L aA 1 2 A ((tf h.length (eu h)).map Ce.i):=iL.gE or λah=>by
  rw[aG];refine an ⟨?_,rfl⟩;cases A with
  |nil=>exact absurd rfl ah
  |_=>rfl
 have bA:=Uy A3;clear aF aV aG;have aJ:∀{b a6:Nat->Nat}{M M':E},dm (λk=>k=2\/k=6) b M a6 M'->To b M a6 M':=λs=>s.mono λk z=>V;have aM:∀{b:Nat->Nat}{M:E},dm (λk=>k=2\/k=6) B L b M->J m M:=λs=>((aJ s).cr (Z.trans x3) a_).1;have a5:∀{b:Nat->Nat}{M:E},dm (λk=>k=2\/k=6) B L b M->cz M m.size aA ((tf h.length (eu h)).map Ce.i):=λs=>B3.congr (s.eA _ B3.lt (by rw[bs];decide));have bq:iL B L aA 1 6 .nil (([]:List Int).map Ce.i):=⟨aL,aL,Or.inl rfl⟩;refine⟨A,rfl,ez (σ:=O) (n:=h.length) V (λk P M=>∃b W,dm (λk=>k=2\/k=6) B L b M/\iL b M aA 1 2 A ((tf h.length (eu h)).map Ce.i)/\iL b M aA 1 6 P ((Vi W).map Ce.i)/\W.Nodup/\(∀a∈W,a<k)/\(∀a,a<k->(eu h a=0<->a∈W))/\
  ∀(a:Nat)(e:bN),a<k->h[a]? =some e->0<e.aP->eu h a<=e.aP/\e.aP<=999999) ⟨B,[],dm.az _ bp,A3,bq,aL,aL,aL,aL⟩ ?_⟩
 rintro k P I I2 μ2 z ⟨Y,W,C4,A4,W4,ao,aj,aH,aE⟩ X
 have X4:=aM C4;refine dit (λh4=>?_) λh4=>?_
 .have al:k<h.length:=V;let⟨e,aa⟩:=dC al;let⟨d,hf,g0,g1,g2⟩:=(cW.ext X4 y).aH aa;rw[am];refine⟨V,V,e.aP,g0,e.km,g1,d,g2,?_⟩;intro U p;have K:J I p:=((J.az I).aJ _).ah (ad _) _ _;have s6:p.size=I.size+1:=by simp[p,U,av]
  clear_value p;have ax:dm (λk=>k=2\/k=6) Y I Y p:=dm.eD _ K C4.new;have C6:=C4.trans ax;have F6:dm (λ_=>False) Y I Y p:=dm.eD _ K C4.new;have A6:=A4.eH F6 id;have W6:=W4.eH F6 id;have g6:=ua (a5 C6) al;have ic:(0<e.aP->eu h k<=e.aP/\e.aP<=999999)->∀(a:Nat)(e:bN),a<k+1->h[a]? =some e->0<e.aP->eu h a<=e.aP/\e.aP<=999999:=λG a ak o hd=>by
   rcases aW a k with Q|Q
   .exact aE a ak Q hd
   .have:a=k:=V;subst this;rw[aa]at hd;simp at hd;subst hd;exact G
  have jR:(0<e.aP->eu h k<=e.aP/\e.aP<=999999)->((0:Int)<=k/\(k:Int)<(h.length:Int)/\∃r:Int,af p m.size (k*1)=some (vi r)/\
   ((r==(0:Int))=true->let x:E:=p.push (.cells (bt [.i (k:Int)]) 3)
    jP x 3 [.i (0:Int)] 8 P (O.mk p.size 0 1 1) λD l=>eG [I.size] x l/\I2 D (cQ ((k:Int)+(1:Int))) l/\μ2 D (cQ ((k:Int)+(1:Int))) l<μ2 P k I)/\
   ((r==(0:Int))=false->I2 P (cQ ((k:Int)+(1:Int))) p/\μ2 P (cQ ((k:Int)+(1:Int))) p<μ2 P k I)):=λG=>by
   refine⟨V,V,_,by rw[eS];exact g6,λD=>?_,λD=>?_⟩
   .intro q
    have F:J p q:=(J.az p).aJ _
    have k7:cz q p.size 3 [.i (k:Int)]:=cz.push p _ _
    have s7:q.size=p.size+1:=by simp[q]
    have F7:dm (λ_=>False) Y p Y q:=dm.eD _ F C6.new
    have C7:dm (λk=>k=2\/k=6) B L Y q:=C6.trans (dm.eD _ F C6.new)
    have ay:=W6.len
    simp[KE]at ay
    have az:W.length<=h.length:=Gz _ _ ao λa o=>by have:=aj a o;omega
    refine iL.append (zs:=[.i 0]) (c:=[.i (k:Int)]) (W6.eH F7 id) C7.new aL k7.iE (by simp only[O.gJ];omega) λr a4 m8 a8 c8=>⟨(aJ (c8.mono λl hj=>Or.inr hj)).dp (by simp;exact⟨V,C4.new _ (ad _)⟩),?_⟩
    refine X V _ _ ⟨r,W++[k],C7.trans (c8.mono λl hj=>Or.inr hj),(A6.eH F7 id).eH c8 bh,by rw[Lc];simpa using a8,?_,λa o=>?_,λa o=>?_,ic G⟩
    .rw[List.nodup_append]
     refine⟨ao,aL,λx T aB R u=>?_⟩
     simp at R;subst R;subst u;have:=aj _ T;omega
    .rcases List.mem_append.1 o with o|o
     .have:=aj a o;omega
     .simp at o;omega
    .rcases aW a k with R|R
     .rw[aH a R];simp;omega
     .have:a=k:=V
      subst this
      simp at D;simp[D]
   .refine X V _ _ ⟨Y,W,C6,A6,W6,ao,λa o=>oh (aj a o),λa o=>?_,ic G⟩
    rcases aW a k with R|R
    .exact aH a R
    .have:a=k:=V
     subst this
     simp at D
     simp only[D,false_iff]
     intro hm;have:=aj _ hm;omega
  refine⟨λC=>⟨V,V,_,by rw[eS];exact g6,λQ=>no (X4.trans K) λz=>?_,λQ=>⟨λD=>no (X4.trans K) λz=>?_,λD=>jR λ_=>by simp at Q D;omega⟩⟩,λC=>jR λQ=>by simp at C;omega⟩
  .have:=z.eu k e aa (by simpa using C);simp at Q;omega
  .have:=(z.cells e (aq aa)).hi;simp at D;omega
 have bf:k=h.length:=V;subst bf;clear X h4
 have bc:∀e∈h,oK h e:=λe s=>by
  let⟨a,o⟩:=List.mem_iff_getElem?.1 s;refine(ai e s).ok ?_;rcases Js 0 e.aP with N|N
  .exact(aE a e (aw o) o N).2
  .omega
 have bl:∀(a:Nat)(e:bN),h[a]? =some e->0<e.aP->eu h a<=e.aP:=λa e o N=>(aE a e (aw o) o N).1;have bi:∀mk a,ij mk 0 h a<=3*h.length:=λmk a=>by
  have:=Qk mk 0 h a;have:=Cp h a λe hm=>(ai e hm).fl;omega
 have K0:HO h (λ_=>false) W (ij (λ_=>false) 0 h):=⟨ao,λa o=>⟨aj a o,rfl⟩,λa o=>by rw[EB,aH a o];simp⟩;have c0:mK (λ_=>false) h.length=0:=by
  generalize h.length=c;induction c with
  |zero=>rfl
  |succ c K=>simp[mK,K]
 refine Sv (γ:=(Nat->Bool)×List Nat) (λK P a3 M=>∃b,a3=(mK K.1 h.length:Nat)/\dm (λk=>k=2\/k=6) B L b M/\iL b M aA 1 2 A ((tf h.length (ij K.1 0 h)).map Ce.i)/\iL b M aA 1 6 P ((Vi K.2).map Ce.i)/\HO h K.1 K.2 (ij K.1 0 h)/\TB h K.1)
  (λK=>h.length -mK K.1 h.length) (λ_=>false,W) ⟨Y,by rw[c0];rfl,C4,by rw[fF (g:=eu h) λj _=>EB 0 h j];exact A4,W4,K0,λ_=>0,aL,aL⟩ ?_
 clear C4 A4 W4 K0 c0 X4 ao aj aH aE;rintro⟨mk,W⟩ P a3 U I3 μ3 ⟨aa,rfl,C5,A5,W5,K5,O5⟩ X
 simp only at A5 W5 K5 O5 X
 have X5:=aM C5;have ay:=W5.len;simp[KE]at ay;have bv:=K5.len;refine⟨λC=>?_,λC=>?_⟩
 .simp only[kJ,ar]at C;have ah:W≠[]:=λu=>by subst u;simp at ay;omega
  obtain⟨W',a,rfl⟩:∃W' a,W=W'++[a]:=⟨W.dropLast,W.getLast ah,(fw ah).symm⟩;rw[Lc]at W5;let⟨p1,p2,p3⟩:=W5.Vw;rw[KE]at p1 p2 p3;have e1:cQ ((P.len:Int) -1)=(W'.length:Int):=by rw[aQ V V];omega
  let⟨az,aP⟩:=K5.un a aL;let⟨e,aB⟩:=dC az;have ab:=aq aB;have be:=(ai e ab).fl;let⟨d,hf,g0,g1,g2⟩:=(cW.ext X5 y).aH aB;rw[e1,am];have bB:=W5.le;refine⟨V,V,a,p2,V,V,?_⟩;rw[am];refine⟨e.aP,g0,e.km,g1,d,g2,?_⟩;intro p q;have F:J U q:=((J.az U).aJ _).ah (ad _) _ _;have s7:q.size=U.size+1:=by simp[q,p,av]
  clear_value q;have F7:dm (λ_=>False) aa U aa q:=dm.eD _ F C5.new;have C7:dm (λk=>k=2\/k=6) B L aa q:=C5.trans (dm.eD _ F C5.new);have bx:=hf.len;have hz:ij mk 0 h a=0:=(K5.zero a az).2 (Or.inr aL);have O7:=O5.set az aP hz;have aT:=λx=>Og (mk:=mk) (e:=0) aB (by rw[bT];exact aP) x;simp only[bT]at aT;have es:=Ad aP az;have bw:=FY (mR mk a) h.length;have K7:HO h (mR mk a) W' (λx=>ij (mR mk a) 0 h x+eB (e.aF.drop 0) x):=by
   have:=K5.Vw;refine⟨this.LO,this.un,λx T=>?_⟩;rw[<-this.zero x T,aT,List.drop_zero];constructor<;>intro h<;>omega
  refine⟨V,V,V,ez (σ:=O) (n:=e.aF.length) V (λl wk M=>∃b W2,dm (λk=>k=2\/k=6) aa q b M/\iL b M aA 1 2 A ((tf h.length (λx=>ij (mR mk a) 0 h x+eB (e.aF.drop l) x)).map Ce.i)/\iL b M aA 1 6 wk ((Vi W2).map Ce.i)/\HO h (mR mk a) W2 (λx=>ij (mR mk a) 0 h x+eB (e.aF.drop l) x))
   ⟨aa,W',dm.az _ C7.new,?_,?_,K7⟩ ?_⟩
  .have:=A5.eH F7 id;rw[fF (g:=ij mk 0 h) λj _=>by simp only[aT,List.drop_zero];omega];exact this
  .exact p3.eH F7 id
  rintro l wk m8 I4 μ4 hj ⟨r,W2,C8,A8,W8,K8⟩ aU;have X8:=aM (C7.trans C8);have T8:=aJ C8;have r7:U.size<m8.size/\r U.size=0:=⟨by have:=C8.size;omega,by rw[C8.gN _ V];exact C5.new _ (ad _)⟩;refine dit (λQ=>?_) λQ=>?_
  .let⟨w,H⟩:=cG e.aF l;have au:=aq H;have ba:=aS e ab w au;have a2:e.aF.drop l=w::e.aF.drop (l+1):=by
    rw[qB (aw H)];congr 1;exact(List.getElem?_eq_some_iff.1 H).2
   obtain⟨f0,aR,_,_,w2⟩:=y.aH aB;have er:f0=d:=by have:=X5.af w2;rw[g2]at this;exact(O.Cc.1 (jO this)).symm
   subst er;refine⟨V,V,w,by simpa using(aR.ext X8).aH H,(iv (cW.ext X8 y) ba.2).mono ?_⟩;rintro _ m9 ⟨a4,b9,rfl,a0,bk,x9⟩;have z9:=x9.size;have F9:dm (λ_=>False) r m8 r m9:=dm.eD _ x9 C8.new;have C9:dm (λk=>k=2\/k=6) aa q r m9:=C8.trans (dm.eD _ x9 C8.new);have A9:=A8.eH F9 id;have W9:=W8.eH F9 id;refine⟨x9.dp bF,a4,b9,rfl,λD=>?_,λD=>?_⟩
   .have ag:=a0.1 D;have ac:=aw (bS ag).1;have e9:=bk D;subst e9;have ak:∀x,eB (e.aF.drop l) x=(if x=ix w then 1 else 0)+eB (e.aF.drop (l+1)) x:=λx=>by rw[a2,iX ag.1]
    have bb:=ak (ix w);rw[an rfl]at bb;have n1:=GH (mR mk a) 0 h (ix w);have n2:=bi (mR mk a) (ix w);have n3:=iG (e.aF.drop (l+1)) (ix w);have n4:=kD (e.aF.drop (l+1)) (ix w);have n5:(e.aF.drop (l+1)).length<=3:=bF;let⟨u1,u2,u3⟩:=XC (d:=λx=>ij (mR mk a) 0 h x+eB (e.aF.drop l) x) (g:=λx=>ij (mR mk a) 0 h x+eB (e.aF.drop (l+1)) x) A9 ac (v:=ij (mR mk a) 0 h (ix w)+eB (e.aF.drop (l+1)) (ix w)) (λj _=>by
     rw[ak];by_cases u:j=ix w
     .subst u;rw[an rfl]
     .rw[ae u,ae u];omega) C9.new
    refine⟨V,V,_,Wf A9 V ac,V,V,u1,?_⟩;rw[show cQ (ij (mR mk a) 0 h (ix w)+eB (e.aF.drop l) (ix w) -1)=ij (mR mk a) 0 h (ix w)+eB (e.aF.drop (l+1)) (ix w)by rw[aQ V V];omega];intro K;have ax:dm (λk=>k=2\/k=6) aa q r K:=C9.trans (u3.mono λk z=>Or.inl z);have bH:K.size=m9.size:=av _ _ _ _;have aK:iL r K aA 1 6 wk ((Vi W2).map Ce.i):=W9.eH u3 bh;let⟨v1,v2⟩:=K8.nM (lf':=λx=>ij (mR mk a) 0 h x+eB (e.aF.drop (l+1)) x) ac (λx=>by
     rw[ak];split<;>omega) (show 0<ij (mR mk a) 0 h (ix w)+eB (e.aF.drop l) (ix w)by omega)
    have a8:To r m9 r K:=u3.mono λk z=>V;have aX:iL r K aA 1 2 A ((tf h.length (λx=>ij (mR mk a) 0 h x+eB (e.aF.drop (l+1)) x)).map Ce.i):=u2;clear_value K;clear u2;refine⟨a8.dp (by simp;exact⟨V,r7.2⟩),V,V,_,Wf aX V ac,λR=>?_,λR=>aU V _ _ ⟨r,W2,ax,aX,aK,v2 (by simpa using R)⟩⟩;intro al;have a7:J K al:=(J.az K).aJ _;have bo:cz al K.size 3 [.i (ix w:Int)]:=cz.push K _ _;have bI:al.size=K.size+1:=by simp[al]
    have aZ:dm (λ_=>False) r K r al:=dm.eD _ a7 ax.new;have aY:dm (λk=>k=2\/k=6) aa q r al:=ax.trans (dm.eD _ a7 ax.new);have bg:=aK.len;simp[KE]at bg;have bz:=K8.len;exact iL.append (zs:=[.i 0]) (c:=[.i (ix w:Int)]) (aK.eH aZ id) aY.new aL bo.iE (by simp only[O.gJ];omega) λbr q2 bE a9 aO=>⟨(aJ (aO.mono λl hj=>Or.inr hj)).dp (by simp;exact⟨V,r7.2⟩),aU V _ _ ⟨br,W2++[ix w],aY.trans (aO.mono λl hj=>Or.inr hj),(aX.eH aZ id).eH aO bh,by rw[Lc];simpa using a9,v1 (by simpa using R)⟩⟩
   .have bj:w<1000:=(a1 e ab w au).resolve_left (fb a0 D);have ak:∀x,eB (e.aF.drop (l+1)) x=eB (e.aF.drop l) x:=λx=>by
     rw[a2];simp only[eB];rw[ae V];omega
    refine aU V _ _ ⟨r,W2,C9,?_,W9,⟨K8.LO,K8.un,λx T=>by rw[ak];exact K8.zero x T⟩⟩;rw[fF (g:=λx=>ij (mR mk a) 0 h x+eB (e.aF.drop l) x) λj _=>by rw[ak]];exact A9
  .have K:e.aF.drop l=[]:=Jt V;have D:∀x,ij (mR mk a) 0 h x+eB (e.aF.drop l) x=ij (mR mk a) 0 h x:=λx=>by rw[K];simp[eB]
   rw[show cQ ((mK mk h.length:Nat)+1:Int)=((mK (mR mk a) h.length:Nat):Int)by rw[es,aQ V V];omega];refine X (mR mk a,W2) _ _ m8 ⟨r,rfl,C7.trans C8,?_,W8,⟨K8.LO,K8.un,λx T=>by have:=K8.zero x T;rw[D]at this;exact this⟩,O7⟩ (by simp only[];omega)
   rw[fF (g:=λx=>ij (mR mk a) 0 h x+eB (e.aF.drop l) x) λj _=>(D j).symm];exact A8
 .simp only[kJ,bG]at C;have p:W=[]:=List.length_eq_zero_iff.1 V;subst p;have q:=Vt O5 ag λa o l=>((K5.zero a o).1 l).resolve_right aL;refine⟨_,_,rfl,?_,λ_=>⟨m.size,rfl,ad _,a5 C5⟩,X5⟩;rw[aI,show((mK mk h.length:Nat):Int)=(N.len:Int)<->mK mk h.length=h.length by omega,q];exact⟨λo=>⟨bn,bc,bl,o⟩,λz=>z.MQ⟩
end
section
variable{j:cR}{f:aY}{m d i:E}{r o e:O}{a b:Nat}
structure SA(j:cR)(f:aY):Prop where
 fI:0<=f.fI/\f.fI<j.cF.length
 pc:0<=f.pc/\f.pc<(dO j f.fI).dq.length
 lr:(f.ak.length:Int)=(dO j f.fI).ak
 lo:(f.aR.length:Int)=(dO j f.fI).ak
 lh:(f.ba.length:Int)=(dO j f.fI).ak
 dA:∀(k:Nat)(w o:Int),f.ak[k]? =some w->f.aR[k]? =some o->(gR w\/1000<=w)/\(0<=o/\o<=999999)
def SA.aR(h:SA j f):∀o∈f.aR,0<=o/\o<=999999:=λo b=>by
 let⟨k,a⟩:=List.mem_iff_getElem?.1 b;have:=aw a;have d:=h.lr;have e:=h.lo;let⟨w,c⟩:=cG f.ak k;exact(h.dA k w o c a).2
def Eo{P Y:O}(R:fj m P Y j)(K:ap m r f.ak)(z:ap m o f.aR)(he:ap m e f.ba):
 dt cq 80 [.agg #[O.v P,O.v Y],.agg #[vi f.fI,vi f.pc,vi f.dst,O.v r,O.v o,O.v e]] m (SA j f):=by
 apply yV
 simp -zeta only[aD,aC]
 intro L d
 have C:J m d:=((J.az m).aJ _).aJ _
 have s1:L.size=m.size+1:=by simp[L]
 have s2:d.size=m.size+2:=by simp[d,s1]
 clear_value d
 have aj:=R.cF.len
 have al:=K.len
 have ag:=z.len
 have ae:=he.len
 have am:=K.gX
 refine⟨λy=>bV (λa=>by have:=a.fI;simp at y;omega) C,λy=>⟨λD=>bV (λa=>by have:=a.fI;simp at D;omega) C,λD=>?_⟩⟩
 simp at y D
 let⟨ac,U⟩:=cG j.cF f.fI.toNat
 have h:dO j f.fI=ac:=by simp[dO,U]
 let⟨pa,pl,pc,ah,ak,aa,k0,k1,k2,k3,k4⟩:=(R.ext C).cF.aH U
 have ai:=aa.len
 refine⟨y,V,pa,k0,pl,k1,_,k2,_,k3,pc,k4,?_⟩
 intro m3 s
 have x4:J d s:=((J.az d).aJ _).ah (ad _) _ _
 have s4:s.size=d.size+1:=by simp[s,m3,av]
 clear_value s
 have c:=C.trans x4
 have hl:∀b∈[d.size,L.size,m.size],b<s.size:=bF
 refine⟨λE=>bV (λa=>by have:=a.pc;simp at E;omega) c,λE=>⟨λF=>bV (λa=>by have:=a.pc;rw[h]at this;simp at F;omega) c,λF=>⟨λG=>bV (λa=>by have:=a.lr;rw[h]at this;simp at G;omega) c,λG=>⟨λH=>bV (λa=>by have:=a.lo;rw[h]at this;simp at H;omega) c,λH=>⟨λI=>bV (λa=>by have:=a.lh;rw[h]at this;simp at I;omega) c,λI=>?_⟩⟩⟩⟩⟩
 simp at E F G H I
 refine dV (n:=f.ak.length) V (λk m'=>J s m'/\∀(g:Nat)(w o:Int),g<k->f.ak[g]? =some w->f.aR[g]? =some o->(gR w\/1000<=w)/\(0<=o/\o<=999999)) ⟨J.az _,λg w o S=>absurd S (eX _)⟩ ?_
 rintro k X Z μ a ⟨N,W⟩ ab
 refine dit (λh8=>?_) λh8=>?_
 .let⟨w,i⟩:=cG f.ak k
  let⟨t,v⟩:=cG f.aR k
  refine⟨V,V,w,by simpa using(K.ext (c.trans N)).aH i,(rc w X).aG N hl λb6 q Q an x=>⟨b6,rfl,?_⟩⟩
  have T:af q o.D (o.off+Int.toNat (k:Int)*1)=some (vi t):=by simpa using(z.ext (c.trans x)).aH v
  have jR:(gR w\/1000<=w)->(0:Int)<=k/\(k:Int)<(o.len:Int)/\∃M:Int,af q o.D (o.off+Int.toNat (k:Int)*1)=some (vi M)/\((decide (M<(0:Int)))=true->∃l:Bool,vb false=.bool l/\(l=true<->SA j f)/\J m q)/\
   ((decide (M<(0:Int)))=false->(0:Int)<=k/\(k:Int)<(o.len:Int)/\∃p:Int,af q o.D (o.off+Int.toNat (k:Int)*1)=some (vi p)/\((decide (p>(999999:Int)))=true->∃l:Bool,vb false=.bool l/\(l=true<->SA j f)/\J m q)/\
   ((decide (p>(999999:Int)))=false->Z (cQ ((k:Int)+(1:Int))) q/\μ (cQ ((k:Int)+(1:Int))) q<μ k X)):=λhi=>
   ⟨V,V,t,T,λp=>bV (λa=>by have:=(a.dA k w t i v).2;simp at p;omega) (c.trans x),λp=>⟨V,V,t,T,λl=>bV (λa=>by have:=(a.dA k w t i v).2;simp at l;omega) (c.trans x),λl=>ab V _ ⟨x,λg w' o' S B A=>by
    rcases aW g k with u|u
    .exact W g w' o' u B A
    .have:g=k:=V;subst this;rw[i]at B;rw[v]at A;simp at B A;subst B;subst A;simp at p l;exact⟨hi,V⟩⟩⟩⟩
  refine⟨λp=>⟨λl=>bV (λa=>?_) (c.trans x),λl=>jR (Or.inr (by simp at l;omega))⟩,λp=>jR (Or.inl (yb Q p))⟩
  rcases(a.dA k w t i v).1 with u|u
  .exact nb Q p u
  .simp at l;omega
 .refine iS ⟨V,by rw[h];omega,by rw[h];omega,by rw[h];omega,by rw[h];omega,λg w o i z=>W g w o (oh (aw i)) i z⟩ (c.trans N)
structure JU(a b:Nat)(m m':E):Prop where
 size:m.size<=m'.size
 same:∀c,c<m.size->c≠a->c≠b->m'[c]? =m[c]?
def JU.az(a b:Nat)(m:E):JU a b m m:=⟨ad _,λ_ _ _ _=>rfl⟩
def JU.ext{g:E}(h:JU a b m g)(f:J g d):JU a b m d:=⟨bJ h.size f.size,λc e i j=>by rw[f.same c (aO e h.size)];exact h.same c e i j⟩
def JU.trans{j:E}(h:JU a b m j)(i:JU a b j d):JU a b m d:=⟨bJ h.size i.size,λc g e f=>by rw[i.same c (aO g h.size) e f];exact h.same c g e f⟩
def JU.ah{d:E}(h:JU a b m d){c:Nat}(i:c=a\/c=b)(o:Nat)(l:List Ce):JU a b m (ah d c o l):=
 ⟨by rw[av];exact h.size,λx j f g=>by rw[bd l d c o (by rcases i with e|e<;>rw[e]<;>assumption)];exact h.same x j f g⟩
def JU.uc{f:E}(h:JU a b m f)(c:J i m)(g:i.size<=a)(j:i.size<=b):J i f:=
 ⟨bJ c.size h.size,λd e=>by rw[h.same d (c.lt e) V V];exact c.same d e⟩
structure Xk(h:List bN)(f:aY):Prop where
 aR:∀(k:Nat)(w o:Int),f.ak[k]? =some w->f.aR[k]? =some o->0<o->gB h w
 ba:∀w∈f.ba,w≠0->1000<=w/\∃c,h[ix w]? =some c/\c.aP<0
def VB{w:Int}{n:Nat}(b:HN w)(f:n<=1000000000):(0<=cQ (w -1000)/\cQ (w -1000)<n)<->(1000<=w/\ix w<n):=by
 let⟨c,d⟩:=b;rcases Js w (-9223372036854774808)with a|a
 .have e:cQ (w -1000)=w -1000+18446744073709551616:=by
   unfold cQ;rw[IntKind.wrap_i64];omega
  unfold ix;rw[e];constructor<;>intro h<;>omega
 .unfold ix;rw[aQ V V];omega
structure OG(m:E)(ob hb n:Nat)(fo fh:Nat->Int):Prop where
 aR:cz m ob aA ((tf n fo).map Ce.i)
 ba:cz m hb aA ((tf n fh).map Ce.i)
 ne:ob≠hb
def Nc{hp:O}{h:List bN}{p c:Nat}{l fh:Nat->Int}(x0:J i m)(hh:cW i hp h)(hr:ap i r f.ak)(B:ap i o f.aR)(he:ap i e f.ba)(ai:i.size<=p)(ah:i.size<=c)(T:OG m p c h.length l fh)
 (ag:Sy f)(ay:h.length<=1000000000)(au:f.ak.length=f.aR.length/\f.ba.length=f.aR.length/\f.aR.length<=10000000)(aj:∀o∈f.aR,0<=o/\o<=999999)(ar:∀a,0<=l a/\l a<=1000000000000000)(ao:∀a,0<=fh a/\fh a<=1000000000):
 aN cq 81 [.agg #[vi f.fI,vi f.pc,vi f.dst,O.v r,O.v o,O.v e],O.v hp,O.v (.mk p 0 h.length h.length),O.v (.mk c 0 h.length h.length)] m λv D=>
  ∃b:Bool,v=vb b/\(b=true<->Xk h f)/\(b=true->OG D p c h.length (λa=>l a+de f.ak f.aR a) (λa=>fh a+eB f.ba a))/\JU p c m D:=by
 apply xu
 simp -zeta only[aD,aC]
 intro I
 have x1:J m I:=(J.az m).aJ _
 have s1:I.size=m.size+1:=by simp[I]
 clear_value I
 have aJ:=hr.len
 have aH:=B.len
 have aF:=he.len
 have aG:=hh.len
 let⟨aA,aB,aE⟩:=au
 have aM:=T.aR.lt
 have aK:=T.ba.lt
 simp -zeta only[O.gJ,O.jF,O.nh,bT]
 have S:∀ac:Nat,Int.toNat (ac:Int)=ac:=λac=>V
 refine dV (n:=f.aR.length) V (λk D=>JU p c m D/\m.size<D.size/\OG D p c h.length (λa=>l a+de (f.ak.take k) (f.aR.take k) a) (λa=>fh a+eB (f.ba.take k) a)/\(∀(j:Nat)(w o:Int),j<k->f.ak[j]? =some w->f.aR[j]? =some o->0<o->gB h w)/\
  (∀w∈f.ba.take k,w≠0->1000<=w/\∃s,h[ix w]? =some s/\s.aP<0)) ⟨(JU.az _ _ _).ext x1,V,by simpa[de,eB]using(⟨T.aR.ext x1,T.ba.ext x1,T.ne⟩:OG I p c h.length l fh),λj w o hj=>absurd hj (eX _),aL⟩ ?_
 rintro k d az μ hk ⟨t2,z2,q,q2,p2⟩ am
 have Q:=t2.uc x0 ai ah
 rw[S,eS]
 refine dit (λh1=>?_) λh1=>?_
 .let⟨w,u⟩:=cG f.ak k
  let⟨t,C⟩:=cG f.aR k
  let⟨v,y⟩:=cG f.ba k
  have gw:∀{M:E},J i M->af M r.D (r.off+k)=some (vi w):=λH=>by simpa using(hr.ext H).aH u
  have gq:∀{M:E},J i M->af M o.D (o.off+k)=some (vi t):=λH=>by simpa using(B.ext H).aH C
  have gv:∀{M:E},J i M->af M e.D (e.off+k)=some (vi v):=λH=>by simpa using(he.ext H).aH y
  have al:=ag.2.2 v (aq y)
  have aI:=aj t (aq C)
  refine⟨V,V,t,gq Q,λM=>JU p c d M/\m.size<M.size/\OG M p c h.length (λa=>l a+de (f.ak.take (k+1)) (f.aR.take (k+1)) a) (λa=>fh a+eB (f.ba.take k) a)/\(0<t->gB h w),⟨λW=>?_,λW=>?_⟩,?_⟩
  .have F:0<t:=by simpa using W
   refine⟨V,V,w,gw Q,(iv (cW.ext Q hh) (ag.1 w (aq u)).2).mono ?_⟩
   rintro _ m3 ⟨a,b3,rfl,N,U,z⟩
   have z3:=z.size
   refine⟨z.dp bF,a,b3,rfl,λx=>⟨false,rfl,?_,aL,t2.ext z⟩,λx=>?_⟩
   .simp only[jt,false_iff]
    exactλht=>nb N x (ht.aR k w t u C F)
   have L:=yb N x
   have P:=aw (bS L).1
   have K:=U (by simpa using x)
   subst K
   have A:=q.aR.ext z
   have R:=q.ba.ext z
   have q1:=GG (ak:=f.ak.take k) (aR:=f.aR.take k) (n:=999999) V (λo B=>aj o (dB B)) (ix w)
   have X:(f.aR.take k).length<=10000000:=bF
   have Y:=ar (ix w)
   rw[S,eS]
   refine⟨V,V,_,ua A P,V,V,On A P,?_⟩
   rw[show cQ (l (ix w)+de (f.ak.take k) (f.aR.take k) (ix w)+t)=l (ix w)+de (f.ak.take k) (f.aR.take k) (ix w)+t from aQ V V]
   have G:=Jn A (ix w) (l (ix w)+de (f.ak.take k) (f.aR.take k) (ix w)+t)
   rw[fF (g:=λa=>l a+de (f.ak.take (k+1)) (f.aR.take (k+1)) a)]at G
   .exact⟨λb Z=>bd _ _ _ _ (by simp at Z;omega),((JU.az _ _ _).ext z).ah (Or.inl rfl) _ _,by rw[av];omega,⟨G,R.congr (bd _ _ _ _ λe=>q.ne e.symm),q.ne⟩,λ_=>L⟩
   .intro b c
    rw[tI u C]
    by_cases e:b=ix w
    .subst e;rw[an rfl,an (iy L.1).symm];omega
    .rw[ae e,ae (λab=>e (by rw[ab,lD]))];omega
  .have F:t=0:=by simp at W;omega
   refine⟨JU.az _ _ _,z2,⟨?_,q.ba,q.ne⟩,λhp=>V⟩
   rw[fF (g:=λa=>l a+de (f.ak.take k) (f.aR.take k) a)]
   .exact q.aR
   .intro b c;rw[tI u C,F];split<;>omega
  rintro m3 ⟨t3,z3,z,ax⟩
  have F:=t2.trans t3
  have R:=F.uc x0 ai ah
  have ic:∀(j:Nat)(w o:Int),j<k+1->f.ak[j]? =some w->f.aR[j]? =some o->0<o->gB h w:=λj w' o' hj P N=>by
   rcases aW j k with A|A
   .exact q2 j w' o' A P N
   .have:j=k:=V;subst this;rw[u]at P;rw[C]at N;simp at P N;subst P;subst N;exact ax
  have aa:=VB (n:=h.length) al ay
  refine⟨V,V,v,gv R,λx=>⟨V,V,v,gv R,?_⟩,λx=>?_⟩
  .have X:v≠0:=by simpa using x
   have ad:∀{M:E},JU p c m M->¬(1000<=v/\∃s,h[ix v]? =some s/\s.aP<0)->∃b:Bool,vb false=vb b/\(b=true<->Xk h f)/\(b=true->OG M p c h.length (λa=>l a+de f.ak f.aR a) (λa=>fh a+eB f.ba a))/\JU p c m M:=λht hn=>
    ⟨false,rfl,by simp only[jt,false_iff];exactλhk=>hn (hk.ba v (aq y) X),aL,ht⟩
   refine⟨λL=>ad F λ⟨g1,s,g2,_⟩=>?_,λL=>⟨λY=>ad F λ⟨g1,s,g2,_⟩=>?_,λY=>?_⟩⟩
   .have:=(aa.2 ⟨g1,aw g2⟩).1;simp at L;omega
   .have:=(aa.2 ⟨g1,aw g2⟩).2;simp at Y;omega
   simp at L Y
   let⟨g1,g2⟩:=aa.1 ⟨L,V⟩
   have ew:cQ (v -1000)=(ix v:Nat):=by have:=al.2;unfold ix;rw[aQ V V];omega
   rw[ew,S]
   let⟨s,hc⟩:=dC g2
   obtain⟨cf,_,c0,_,_⟩:=(cW.ext R hh).aH hc
   refine⟨V,V,s.aP,c0,λA=>ad F λ⟨_,c',U,g4⟩=>?_,λA=>?_⟩
   .rw[hc]at U;simp at U;subst U;simp at A;omega
   have q1:=ao (ix v)
   have q2:=kD (f.ba.take k) (ix v)
   have q3:=iG (f.ba.take k) (ix v)
   have q4:(f.ba.take k).length<=10000000:=bF
   rw[eS]
   refine⟨V,V,_,ua z.ba g2,V,V,On z.ba g2,?_⟩
   rw[show cQ (fh (ix v)+eB (f.ba.take k) (ix v)+1)=fh (ix v)+eB (f.ba.take k) (ix v)+1 from aQ V V]
   have G:=Jn z.ba (ix v) (fh (ix v)+eB (f.ba.take k) (ix v)+1)
   rw[fF (g:=λa=>fh a+eB (f.ba.take (k+1)) a)]at G
   .refine⟨λb Z=>bd _ _ _ _ (by simp at Z;omega),am V _ ⟨F.ah (Or.inr rfl) _ _,by rw[av];exact z3,⟨z.aR.congr (bd _ _ _ _ q.ne),G,q.ne⟩,ic,bC y p2 λ_=>⟨g1,s,hc,by simp at A;omega⟩⟩⟩
   .intro b c
    rw[rH y]
    by_cases e:b=ix v
    .subst e;rw[an rfl,an (iy g1).symm];omega
    .rw[ae e,ae (λab=>e (by rw[ab,lD]))];omega
  .have X:v=0:=by simpa using x
   refine am V _ ⟨F,z3,⟨z.aR,?_,q.ne⟩,ic,bC y p2 λG=>absurd X G⟩
   rw[fF (g:=λa=>fh a+eB (f.ba.take k) a)]
   .exact z.ba
   .intro b c;rw[rH y,ae V];omega
 .have t:f.ak.take k=f.ak:=bY V
  have x:f.aR.take k=f.aR:=bY V
  have K:f.ba.take k=f.ba:=bY V
  rw[t,x,K]at q
  rw[K]at p2
  exact⟨true,rfl,by simp only[true_iff];exact⟨λj w o u B=>q2 j w o (oh (aw u)) u B,p2⟩,λ_=>q,t2⟩
end
section
def Xb(a:List aY)(k:Nat)(f:aY):Prop:=(nJ a k=none->f.dst=0)/\∀p,nJ a k=some p->0<=f.dst/\f.dst<p.aR.length/\aH p.aR f.dst=0
structure Tv(im:cR)(s:St)(k:Nat)(f:aY):Prop where
 v:SA im f
 dst:Xb s.ao k f
 ZE:Xk s.heap f
def Tv.ok{c:cR}{s:St}{k:Nat}{f:aY}(h:Tv c s k f):KM c s.heap (nJ s.ao k) f:=
 ⟨h.v.fI,h.v.pc,h.v.lr,h.v.lo,h.v.lh,⟨λj w o b a=>⟨(h.v.dA j w o b a).1,(h.v.dA j w o b a).2,h.ZE.aR j w o b a⟩⟩,h.dst.1,h.dst.2⟩
def NI.w{m:cR}{s:St}(h:NI m s){k:Nat}{f:aY}(d:s.ao[k]? =some f):Tv m s k f:=by
 have F:=h.ao k f d;refine⟨⟨F.fI,F.pc,F.lr,F.lo,F.lh,λj w o b c=>⟨(F.ak.dA j w o b c).1,(F.ak.dA j w o b c).2.1⟩⟩,⟨F.first,F.next⟩,λj w o b c=>(F.ak.dA j w o b c).2.2,λw b q=>?_⟩;let⟨g,n⟩:=(h.ba.cL f (aq d) w b).resolve_left q;let⟨e,i⟩:=dC n;refine⟨g,e,i,Int.not_le.1 λp=>?_⟩;have r:=h.ba.nt _ e i p;have t:=P9 (aq d) (b:=ix w);have u:=uW (l:=f.ba) (f:=ix w) (by rw[iy g];exact b);omega
section
variable{m:E}{d p aS c b:O}{a:cR}{s:St}
def Eu(aT:fj m d p a)(aZ:nv a)(Q:gD m aS c b s)(ab:yO s):dt cq 44 [.agg #[O.v d,O.v p],KB s aS c b] m (cX a s):=by
 apply yZ;simp -zeta only[aD,aC];intro m1 L;have x2:J m L:=((J.az m).aJ _).aJ _;have s1:m1.size=m.size+1:=by simp[m1]
 have s2:L.size=m.size+2:=by simp[L,s1]
 clear_value L;have hl:∀x∈[m1.size,m.size],x<L.size:=bF;have aP:=Q.ao.len;have a9:=Q.heap.len;have a_:=ab.lh;have t:∀{M:E},J L M->¬NI a s->∃A:Bool,vb false=.bool A/\(A=true<->cX a s)/\J m M:=λhx I=>bV (λh=>I (ON h)) (x2.trans hx);have ar:(s.ao=[])<->((b.len:Int)=0):=by rw[aP];simp
 refine⟨λM=>J L M/\(0<=s.cB/\s.cB<=3)/\(s.cB=0<->s.ao=[])/\gR s.value/\(s.value≠0->s.cB=0),?_,?_⟩
 .refine⟨λy=>t (J.az _) λi=>by have:=i.cB;simp at y;omega,λy=>⟨λv=>t (J.az _) λi=>by have:=i.cB;simp at v;omega,λv=>⟨λF=>t (J.az _) λi=>?_,λF=>?_⟩⟩⟩
  .have:=i.done;rw[ar,<-FT]at this;rw[this]at F;cases F
  have ah:0<=s.cB/\s.cB<=3:=by simp at y v;omega
  have ag:s.cB=0<->s.ao=[]:=by rw[ar];exact(FT _ _).1 F
  refine(rc _ _).aG (J.az _) hl λb3 m3 e C _=>⟨b3,rfl,λz=>t C λi=>nb e z i.value,λz=>⟨λf=>⟨λh=>t C λi=>?_,λh=>⟨C,ah,ag,yb e z,λ_=>by simpa using h⟩⟩,λf=>⟨C,ah,ag,yb e z,λh=>by simp at f;exact absurd f h⟩⟩⟩;have:=i.ug (by simpa using f);simp at h;exact h this
 rintro m3 ⟨C,ah,ag,hv,a2⟩;refine⟨λy=>t C λi=>by have:=i.dT;simp at y;omega,λy=>⟨λv=>t C λi=>by have:=i.dT;simp at v;omega,λv=>⟨λF=>t C λi=>by have:=i.bu;simp at F;omega,λF=>⟨λz=>t C λi=>by have:=i.bu;simp at z;omega,λz=>?_⟩⟩⟩⟩;have aV:0<=s.dT/\s.dT<=40:=by simp at y v;omega
 have aM:0<=s.bu/\s.bu<=s.dT:=by simp at F z;omega
 rw[aQ V V];refine⟨λf=>t C λi=>by have:=i.depth;simp at f;omega,λf=>?_⟩;have aN:(s.ao.length:Int)<=s.bu+1:=by simp at f;omega
 clear y v F z f;have X3:=x2.trans C;refine(CF (Q.ext X3).heap ab.heap V).mono ?_;rintro _ m4 ⟨ct,b4,rfl,ao,a1,aE⟩;have x4:=C.trans aE;have z4:=x4.size;have z3:=C.size;refine⟨aE.dp λx H=>C.lt (hl x H),ct,b4,rfl,λy=>t x4 λi=>nb ao y i.heap,λy=>?_⟩;have ax:=yb ao y;obtain⟨ob,rfl,bb,B4⟩:=a1 (by simpa using y);have bf:=B4.lt;refine(iZ (Q.ext (x2.trans x4)).aS 79 #[] #[] bh (λai=>¬gR ai) (λai _ m' hx=>?_)).aG x4 hl ?_
 .apply wu;refine(rc _ _).then λx G H x5=>⟨x,rfl,eV ?_ x5⟩;rw[<-H];simp
 intro b5 G ap aF x5;have z5:=x5.size;have bg:=aF.size;refine⟨b5,rfl,λv=>t x5 λi=>?_,λv=>?_⟩
 .let⟨ai,hx,I⟩:=ap.1 v;exact I (i.aS ai hx)
 have a0:∀Z∈s.aS,gR Z:=λZ I=>dQ λB=>by have:=ap.2 ⟨Z,I,B⟩;rw[v]at this;cases this
 have en:Int.toNat (c.len:Int)=s.heap.length:=V;rw[en];refine⟨V,V,V,V,?_⟩;intro R;have aG:J G R:=(J.az G).aJ _;have s6:R.size=G.size+1:=by simp[R]
 have H6:cz R G.size aA ((tf s.heap.length (λ_=>0)).map Ce.i):=MC G _;clear_value R;have x6:=x5.trans aG;have X6:=x2.trans x6;have T6:OG R ob G.size s.heap.length (eu s.heap) (λ_=>0):=⟨B4.ext (aF.trans aG),H6,V⟩;have aX:m.size<=ob:=by have:=X3.size;omega
 have ak:∀Z:Nat,Int.toNat (Z:Int)=Z:=λZ=>V;have a8:s.ao.length<=41:=V;have rb:∀e,0<=eu s.heap e/\eu s.heap e<=3*s.heap.length:=λe=>⟨rm _ _,Cp _ _ λo B=>(ax.cells o B).fl⟩;refine dV (n:=s.ao.length) V (λj M=>JU ob G.size R M/\OG M ob G.size s.heap.length (λe=>eu s.heap e+fE (s.ao.take j) e) (λe=>dH (s.ao.take j) e)/\∀(q:Nat)(l:aY),q<j->s.ao[q]? =some l->Tv a s q l)
  ⟨JU.az _ _ _,by simpa[fE,dH]using T6,λq l K=>absurd K (eX _)⟩ ?_
 rintro j W a7 μ i ⟨t7,N,al⟩ a3
 have x7:J L W:=t7.uc x6 V V;have P:=x2.trans x7;have bd:∀x∈[m1.size,m.size],x<W.size:=λx H=>x7.lt (hl x H);have z7:=x7.size;have be:=N.aR.lt;have bc:=N.ba.lt;rw[ak];refine dit (λF=>?_) λF=>?_
 .let⟨l,r⟩:=cG s.ao j;have au:=aq r;let⟨a5,a4,ac,hr,ho,U,g0,g1,g2,g3,g4,g5⟩:=Q.ao.aH r;refine⟨V,V,_,P.af g0,_,P.af g1,_,P.af g2,a5,P.af g3,a4,P.af g4,ac,P.af g5,?_⟩;intro X Y;have T:J W Y:=((J.az W).aJ _).ah (ad _) _ _;have s9:Y.size=W.size+1:=by simp[Y,X,av]
  clear_value Y;have X9:=P.trans T;have l9:∀x∈[W.size,m1.size,m.size],x<Y.size:=bF;refine(Eo (aT.ext X9) (hr.ext X9) (ho.ext X9) (U.ext X9)).aG (J.az _) l9 λaJ w am D _=>⟨aJ,rfl,λz=>t ((x7.trans T).trans D) λi=>nb am z (i.w r).v,λz=>?_⟩;have hV:=yb am z;have S:=(x7.trans T).trans D;have ae:=x2.trans S;refine⟨λM=>w=M/\Xb s.ao j l,?_,?_⟩
  .have ay:(cQ ((j:Int) -1)=((j -1:Nat):Int))\/j=0:=by
    rcases j9 j with f|f
    .exact Or.inr f
    .exact Or.inl (by rw[aQ V V];omega)
   have jR:0<j->((decide (l.dst<(0:Int)))=true->∃A:Bool,vb false=.bool A/\(A=true<->cX a s)/\J m w)/\((decide (l.dst<(0:Int)))=false->
    (0:Int)<=(cQ ((j:Int) -(1:Int)))/\(cQ ((j:Int) -(1:Int)))<(b.len:Int)/\
    ∃aa:O,af w b.D (b.off+Int.toNat (cQ ((j:Int) -(1:Int)))*6+4)=some (O.v aa)/\
    ((decide (l.dst>=(aa.len:Int)))=true->∃A:Bool,vb false=.bool A/\(A=true<->cX a s)/\J m w)/\
    ((decide (l.dst>=(aa.len:Int)))=false->(0:Int)<=(cQ ((j:Int) -(1:Int)))/\(cQ ((j:Int) -(1:Int)))<(b.len:Int)/\
    ∃u:O,af w b.D (b.off+Int.toNat (cQ ((j:Int) -(1:Int)))*6+4)=some (O.v u)/\
    (0:Int)<=l.dst/\l.dst<(u.len:Int)/\∃aj:Int,af w u.D (u.off+Int.toNat l.dst*1)=some (vi aj)/\
    ((aj !=(0:Int))=true->∃A:Bool,vb false=.bool A/\(A=true<->cX a s)/\J m w)/\((aj !=(0:Int))=false->w=w/\Xb s.ao j l))):=λaL=>by
    have e1:=ay.resolve_right V
    rw[e1,ak]
    obtain⟨q,rfl⟩:∃q,j=q+1:=⟨j -1,V⟩
    have ej:q+1 -1=q:=V
    rw[ej]
    let⟨pf,aj⟩:=cG s.ao q
    let⟨pr,po,pe,aO,an,aI,y0,y1,y2,y3,y4,y5⟩:=Q.ao.aH aj
    have aK:=an.len
    have aa:nJ s.ao (q+1)=some pf:=aj
    refine⟨λf=>t S λi=>?_,λf=>⟨V,V,po,ae.af y4,λh=>t S λi=>?_,λh=>⟨V,V,po,ae.af y4,by simpa using f,by simp at h;omega,aH pf.aR l.dst,?_,λu=>t S λi=>?_,λu=>⟨rfl,⟨λI=>(by rw[aa]at I;cases I),λaB hq=>?_⟩⟩⟩⟩⟩
    .have:=((i.w r).dst.2 pf aa).1;simp at f;omega
    .have:=((i.w r).dst.2 pf aa).2.1;simp at h;omega
    .simp at f h
     exact(an.ext ae).pM f V
    .have:=((i.w r).dst.2 pf aa).2.2;simp at u;exact u this
    .rw[aa]at hq;simp at hq;subst hq
     simp at f h u;exact⟨f,V,u⟩
   refine⟨λf=>⟨λh=>t S λaz=>?_,λh=>⟨λu=>by simp at f u;omega,λu=>⟨rfl,⟨λ_=>by simpa using h,λaB hq=>?_⟩⟩⟩⟩,λf=>⟨λh=>jR (by simp at h;omega),λh=>by simp at f h;omega⟩⟩
   .simp at f;subst f;have:=(az.w r).dst.1 rfl;simp at h;exact h this
   .simp at f;subst f;simp[nJ]at hq
  .rintro _ ⟨rfl,hD⟩;have aU:=ab.lr l au;have v1:=hV.lr;have v2:=hV.lo;have v3:=hV.lh;have ur:=D.size;have aI:OG w ob G.size s.heap.length (λe=>eu s.heap e+fE (s.ao.take j) e) (λe=>dH (s.ao.take j) e):=⟨N.aR.ext (T.trans D),N.ba.ext (T.trans D),N.ne⟩;have aR:∀e,0<=eu s.heap e+fE (s.ao.take j) e/\eu s.heap e+fE (s.ao.take j) e<=1000000000000000:=λe=>by
    have q1:=rb e;have q2:=KH (a:=s.ao.take j) (n:=10000000) (k:=999999) V (λaa u=>⟨(ab.lr aa (dB u)).2.1,by
     let⟨q,K⟩:=List.mem_iff_getElem?.1 u;have aj:q<j:=by have:=aw K;simp at this;omega
     rw[dI aj]at K;exact(al q aa aj K).v.aR⟩) e
    have q3:(s.ao.take j).length<=41:=bF;omega
   have aO:∀e,0<=dH (s.ao.take j) e/\dH (s.ao.take j) e<=1000000000:=λe=>by
    have q2:=Lt (a:=s.ao.take j) (n:=10000000) (λaa u=>(ab.lr aa (dB u)).2.2) e;have q3:(s.ao.take j).length<=41:=bF;have q4:=wc (s.ao.take j) e;omega
   refine(Nc (i:=m) ae Q.heap hr ho U aX V aI (ab.ao l au) V ⟨V,V,aU.2.1⟩ hV.aR aR aO).mono ?_;rintro _ ay ⟨aK,rfl,an,aL,az⟩;have aB:JU ob G.size R ay:=(t7.ext (T.trans D)).trans az;have a6:J L ay:=aB.uc x6 V V;refine⟨λx H=>az.same x (D.lt (l9 x H)) (by simp at H;omega) (by simp at H;omega),aK,rfl,λf=>t a6 λi=>nb an f (i.w r).ZE,λf=>a3 V _ ⟨aB,?_,λq aa K u=>?_⟩⟩
   .have aj:=aL (by simpa using f);refine⟨?_,?_,aj.ne⟩
    .rw[fF (g:=λe=>eu s.heap e+fE (s.ao.take j) e+de l.ak l.aR e)]
     .exact aj.aR
     .intro x H;rw[Od r];omega
    .rw[fF (g:=λe=>dH (s.ao.take j) e+eB l.ba e)]
     .exact aj.ba
     .intro x H;rw[Lu r]
   .rcases aW q j with h|h
    .exact al q aa h u
    .have:q=j:=V;subst this;rw[r]at u;simp at u;subst u;exact⟨hV,hD,yb an f⟩
 rw[bY V]at N;have hW:∀(q:Nat)(l:aY),s.ao[q]? =some l->Tv a s q l:=λq l r=>al q l (oh (aw r)) r;refine dV (n:=s.heap.length) V (λj M=>J W M/\∀(e:Nat)(o:bN),e<j->s.heap[e]? =some o->(0<o.aP->o.aP=eu s.heap e+fE s.ao e)/\(o.aP<0->dH s.ao e=1)) ⟨J.az _,λe o ha=>absurd ha (eX _)⟩ ?_;rintro u X I2 μ2 au ⟨x8,aj⟩ an;have X8:=P.trans x8;rw[ak];refine dit (λz=>?_) λz=>?_
 .have ae:u<s.heap.length:=V;let⟨o,aa⟩:=dC ae;obtain⟨l,_,g0,g1,g2⟩:=Q.heap.aH aa;refine⟨λM=>J X M/\(0<o.aP->o.aP=eu s.heap u+fE s.ao u)/\(o.aP<0->dH s.ao u=1),?_,?_⟩
  .refine⟨V,V,_,X8.af g0,_,X8.af g1,l,X8.af g2,?_⟩;intro Y w;have D:J X w:=((J.az X).aJ _).ah (ad _) _ _;clear_value w;have S:=(x7.trans x8).trans D;have go:=ua (N.aR.ext (x8.trans D)) ae;have gh:=ua (N.ba.ext (x8.trans D)) ae;simp -zeta only[O.gJ,O.jF,O.nh,bT,eS];have ba:(0<o.aP->o.aP=eu s.heap u+fE s.ao u)->((decide (o.aP<(0:Int)))=true->(0:Int)<=u/\(u:Int)<(s.heap.length:Int)/\∃am:Int,af w G.size u=some (vi am)/\
    ((am !=(1:Int))=true->∃A:Bool,vb false=.bool A/\(A=true<->cX a s)/\J m w)/\((am !=(1:Int))=false->J X w/\(0<o.aP->o.aP=eu s.heap u+fE s.ao u)/\(o.aP<0->dH s.ao u=1)))/\
    ((decide (o.aP<(0:Int)))=false->J X w/\(0<o.aP->o.aP=eu s.heap u+fE s.ao u)/\(o.aP<0->dH s.ao u=1)):=λB=>
    ⟨λf=>⟨V,V,_,gh,λh=>t S λi=>by have:=i.ba.lj u o aa (by simpa using f);simp at h;exact h this,λh=>⟨D,B,λ_=>by simpa using h⟩⟩,λf=>⟨D,B,λh=>by simp at f;omega⟩⟩
   refine⟨λf=>⟨V,V,_,go,λh=>t S λi=>?_,λh=>ba λ_=>by simpa using h⟩,λf=>ba λh=>by simp at f;omega⟩;have:=i.Q3 u o aa (by simpa using f);simp at h;exact h this
  .rintro Y ⟨T,w,D⟩;refine an V _ ⟨x8.trans T,λe ac ha U=>?_⟩;rcases aW e u with h|h
   .exact aj e ac h U
   .have:e=u:=V;subst this;rw[aa]at U;simp at U;subst U;exact⟨w,D⟩
 .refine iS (MB ⟨aZ,ah,ag,hv,a2,aV,aM,aN,a0,ax,λq l r=>(hW q l r).ok,⟨λl r w h=>?_,λS o B I=>(aj S o (oh (aw B)) B).2 I,λS o B I=>?_⟩,λe o B c=>(aj e o (oh (aw B)) B).1 c⟩) X8
  .let⟨q,K⟩:=wy r;by_cases D:w=0
   .exact Or.inl D
   .obtain⟨y,o,v,_⟩:=(hW q l K).ZE.ba w h D;exact Or.inr ⟨y,aw v⟩
  .refine Lv λl r w h ac=>?_;let⟨q,K⟩:=wy r;let⟨y,D,v,F⟩:=(hW q l K).ZE.ba w h V;rw[ac,lD,B]at v;simp at v;subst v;omega
def tB(k:fj m d p a)(r:gD m aS c b s)(q:yO s):dt cq 21 [.agg #[O.v d,O.v p],KB s aS c b] m (cX a s):=by
 apply yS;simp -zeta only[aD,aC];intro i e;have f:J m e:=((J.az m).aJ _).aJ _;have t:i.size=m.size+1:=by simp[i]
 have x:e.size=m.size+2:=by simp[e,t]
 clear_value e;have l:∀n∈[i.size,m.size],n<e.size:=bF;refine(El (k.ext f)).aG (J.az _) l λb3 v j g _=>⟨b3,rfl,λh=>?_,λh=>bV (λo=>fb j h o.fm) (f.trans g)⟩;refine(Eu (k.ext (f.trans g)) (j.1 h) (r.ext (f.trans g)) q).aG g l λb4 w o y u=>⟨b4,rfl,eV o (f.trans u)⟩
end
end
end Go.Proofs.YtkoifinbblcbiaaGreat
section
namespace Go.Vc
def fS.kM{m:E}{b o:Nat}{l r:List Ce}(h:fS m b o l)(k:fS m b (o+l.length) r):fS m b o (l++r):=λi d a=>by
 rcases aW i l.length with c|c
 .rw[ax c]at a;exact h i d a
 .rw[aK c]at a;have:=k _ d a;rwa[show o+l.length+(i -l.length)=o+i by omega]at this
def eU.Ut{α:Type}{m:E}{c:Nat}{R:List Ce->α->Prop}{s:O}{l:List α}(h:eU m c R s l)(j:∀d x,R d x->d.length=c):∃a,gU c R a l/\fS m s.D s.off a.flatten:=by
 have:∀k,k<=l.length->∃a,gU c R a (l.take k)/\fS m s.D s.off a.flatten:=by
  intro k;induction k with
  |zero=>intro _;exact⟨[],by simpa using gU.nil c R,λi e b=>by simp at b⟩
  |succ k o=>
   intro p;let⟨a,b,e⟩:=o V;let⟨x,g⟩:=cG l k;let⟨d,f,i⟩:=h.iE k x g;refine⟨a++[d],by rw[aU g];exact b.zg (j d x f) f,?_⟩;rw[qU];refine e.kM ?_;have n:a.flatten.length=k*c:=by rw[cw b.size,b.len,gP,jg V]
   rw[n];simpa using i
 let⟨a,b,e⟩:=this l.length (ad _);rw[fy]at b;exact⟨a,b,e⟩
end Go.Vc
namespace Go.Proofs.YtkoifinbblcbiaaGreat
open Go.Vc
variable{m:E}{s:O}{d:Nat->Nat}{N:Nat}{h:List bN}
def gZ.DU{a:E}{l:List Ce}{e n:Nat}(f:gZ m a e n s l)(j:J m a)(i:∀b,m.size<=b->d b=0)(k:Nat):∃c,dm (λ_=>False) d m c a/\iL c a e n k s l/\∀b,c b=d b\/c b=k:=by
 rcases f.aH with h|⟨b,g,tail,h,h2,h3,h4,h5⟩
 .exact⟨d,dm.eD _ j i,iL.gE f λo=>absurd h o,λb=>Or.inl rfl⟩
 .refine⟨nE d b k,dm.nE j i h2 h3.lt k,iL.gE f λ_=>by rw[h];exact fg _ _ _,λg=>?_⟩;by_cases e:g=b
  .rw[e];exact Or.inr (fg _ _ _)
  .exact Or.inl (eJ e)
def IK{z:O}(L:∀b,m.size<=b->d b=0)(H:∀b,b<m.size->d b≠3)(y:cW m z h)(hN:N<=m.size)(K:∀c∈h,c.aF.length<=3)(ac:h.length<=1000000000):
 aN cq 67 [O.v z] m λY l=>∃e s,Y=O.v s/\dL N e l s h/\dm (λk=>k=3) d m e l/\J m l:=by
 apply CX
 intro A
 have Z:J m A:=(J.az m).aJ _
 clear_value A
 have hl:=y.len
 have X:∀{e:Nat->Nat}{M:E},dm (λk=>k=3) d m e M->J m M:=λc=>⟨c.size,λb a=>c.eA b a (H b a)⟩
 refine ez (σ:=O) (n:=h.length) V (λk s M=>∃e,dL N e M s (h.take k)/\dm (λk=>k=3) d m e M) ⟨d,⟨[],⟨aL,aL,Or.inl rfl⟩,by simpa using gU.nil _ _,XN.nil⟩,dm.eD _ Z L⟩ ?_
 rintro k s T aa μ hk ⟨i,f,a⟩ U
 have v:=X a
 have en:Int.toNat (k:Int)=k:=V
 rw[en]
 refine dit (λG=>?_) λG=>?_
 .let⟨c,j⟩:=cG h k
  let⟨F,I,w,g1,g2⟩:=(cW.ext v y).aH j
  have ab:=K c (aq j)
  refine⟨V,V,c.aP,w,V,V,c.km,g1,V,V,F,g2,(gW I V).mono ?_⟩
  rintro _ g ⟨q,rfl,o,r⟩
  refine⟨q,rfl,r.da g1,r.da w,?_⟩
  intro b
  have t:J g b:=(J.az g).aJ _
  have S:cz b g.size mf [.i c.aP,.i c.km,.s q]:=cz.push g _ _
  clear_value b
  have p:=r.trans t
  have C:dm (λ_=>False) i T i b:=dm.eD _ p a.new
  have u:dm (λk=>k=3) d m i b:=a.trans (dm.eD _ p a.new)
  have R:ap b q c.aF:=(ap.gE o V).ext t
  have Q:c.aF≠[]->i q.D=0:=λP=>a.new _ ((FB.gE o P).1)
  have hz:=a.size
  refine dL.push (f.eH C id id) u.new (x:=.mk g.size 0 1 1) rfl S.iE R (RF.of f (λB=>p.same _ (f.D B).2) (λ_=>o.ext t) Q V) bF λW ad m5 D B=>?_
  exact U V _ _ ⟨W,by rw[aU j];exact D,u.trans B⟩
 .rw[bY V]at f
  exact⟨i,s,rfl,f,a,v⟩
structure ZP(N:Nat)(d:Nat->Nat)(m:E)(r:O)(h:List bN)(css0 css:List (List Ce))(k:Nat):Prop where
 qA:iL d m mf 3 3 r css.flatten
 len:css.length=h.length
 size:∀cs∈css,cs.length=3
 done:∀(j:Nat)(cs:List Ce)(c:bN),j<k->css[j]? =some cs->h[j]? =some c->yv N d m cs c
 jR:∀j,k<=j->css[j]? =css0[j]?
 sep:∀(i j:Nat)(ci cj:List Ce)(a b:O),i<k->j<k->css[i]? =some ci->css[j]? =some cj->ci[2]? =some (.s a)->cj[2]? =some (.s b)->i≠j->a.len≠0->b.len≠0->a.D≠b.D
def AL{a:List (List Ce)}{n:Nat}(d:s.len=n)(g:a.length=n)(k:∀b∈a,b.length=3)(j:fS m s.D s.off a.flatten)(t:n<=1000000000):
 aN cq 94 [O.v s] m λv c=>∃r,v=O.v r/\gZ m c mf 3 r a.flatten/\J m c:=by
 apply nj
 refine⟨λh=>?_,λh=>?_⟩
 .cases s with
  |nil=>simp at d;have:a=[]:=List.length_eq_zero_iff.1 V;subst this;exact⟨.nil,rfl,gZ.nil _ _ _ _,J.az _⟩
  |mk b o f e=>simp at h
  |Af b o e=>simp at h
 .intro e
  have b:J m e:=(J.az m).aJ _
  have i:gZ m e mf 3 (.mk m.size 0 0 0) []:=gZ.new (J.az m) mf 3 [] 0 aL
  refine gZ.append (zs:=[.i 0,.i 0,.s .nil]) (d:=a.flatten) i b (by rw[cw k,g,d];rfl) (b.iE j) bF λr c b f l o p q=>⟨r,rfl,by simpa using b,f⟩
def Gj{hp:O}(hn:∀b,m.size<=b->d b=0)(h3:∀b,b<m.size->d b≠3)(hh:cW m hp h)(hN:N<=m.size)(ay:∀c∈h,c.aF.length<=3)(aA:h.length<=1000000000):
 aN cq 57 [O.v hp] m λaF m'=>∃W s,aF=O.v s/\dL N W m' s h/\dm (λk=>k=3) d m W m'/\J m m':=by
 apply An
 simp -zeta only[aD,aC]
 have hl:=hh.len
 let⟨aa,u,jx⟩:=hh.Ut (λz an⟨af,e,_⟩=>by rw[e];rfl)
 refine(AL hl u.len u.size jx aA).mono ?_
 rintro _ m1 ⟨y,rfl,or,x1⟩
 obtain⟨g,C1,X,_⟩:=gZ.DU or x1 hn 3
 have aK:y.len=h.length:=by have:=X.len;rw[cw u.size,u.len]at this;omega
 refine⟨y,rfl,?_⟩
 have aE:∀{W:Nat->Nat}{M:E},dm (λk=>k=3) d m W M->J m M:=λc=>⟨c.size,λb l=>c.eA b l (h3 b l)⟩
 refine dV (n:=h.length) V (λk M=>∃i,ZP N g M y h aa i k/\dm (λk=>k=3) d m g M) ⟨aa,⟨X,u.len,u.size,λj _ _ p=>absurd p (eX _),λ_ _=>rfl,λB _ _ _ _ _ D=>absurd D (eX _)⟩,C1.mono λ_=>False.elim⟩ ?_
 rintro k F aG μ hk ⟨i,a,v⟩ aB
 have X2:=aE v
 have en:Int.toNat (k:Int)=k:=V
 rw[en]
 refine dit (λR=>?_) λR=>?_
 .have ak:k<h.length:=V
  let⟨c,T⟩:=dC ak
  let⟨af,hf,g0,g1,g2⟩:=(cW.ext X2 hh).aH T
  have aJ:=ay c (aq T)
  refine⟨V,V,c.aP,g0,c.km,g1,af,g2,?_⟩
  intro m3 G
  have x4:J F G:=((J.az F).aJ _).ah (ad _) _ _
  have s4:G.size=F.size+1:=by simp[G,m3,av]
  clear_value G
  refine(eO (hf.ext x4) V).mono ?_
  rintro _ H ⟨q,rfl,oq,x5⟩
  have K:dm (λ_=>False) g F g H:=dm.eD _ (x4.trans x5) v.new
  have Y:=a.qA.eH K id
  have aH:=a.len
  have ai:k*3+2+1<=i.flatten.length:=by rw[cw a.size];have:(k+1)*3<=i.length*3:=dg _ V;omega
  let⟨z,U⟩:=cG i k
  let⟨ae,ag⟩:=cG aa k (by rw[u.len];exact ak)
  have ao:z=ae:=by have:=a.jR k (ad _);rw[U,ag]at this;simpa using this
  let⟨f0,ar,aI⟩:=u.dA k ae c ag T
  rw[ao,ar]at U
  have ax:y.cap≠0:=λe=>by have:=X.le;omega
  have rb:=Y.D ax
  have c6:∀am,dm (λk=>k=3) g H g (ah H y.D (y.off+(k*3+2)) am):=λam=>dm.ah K.new rb.2 _ _
  have au:g F.size=0:=v.new _ (ad _)
  refine⟨x5.dp bF,q,rfl,V,V,?_⟩
  rw[di]
  refine⟨Y.wr ai,?_⟩
  intro m6
  have I:=c6 [.s q]
  have ab:c.aF≠[]->g q.D=0/\G.size<=q.D:=λx=>by
   have:=(FB.gE oq x).1;exact⟨v.new _ V,this⟩
  have iq:ap H q c.aF:=ap.gE oq V
  have L6:yv N g m6 [.i c.aP,.i c.km,.s q] c:=yv.eH I bh _ _ ⟨q,rfl,iq,λx=>⟨(ab x).1,PA ((ab x).2) v.size,(FB.gE oq x).2⟩⟩
  have ac:(i.set k [.i c.aP,.i c.km,.s q])[k]? =some [.i c.aP,.i c.km,.s q]:=dy (aw U)
  refine⟨(I.mono λk hk=>by omega:To g H g m6).dp (by simp;exact⟨by have:=x5.size;omega,au⟩),aB V _ ⟨i.set k [.i c.aP,.i c.km,.s q],⟨?_,by simpa using a.len,λZ w=>?_,λj Z Q p w hd=>?_,λj p=>?_,?_⟩,(v.trans (K.mono λ_=>False.elim)).trans I⟩⟩
  .have:=Y.set (o:=k*3+2) (new:=[.s q]) ai
   rw[Cv i k _ 2 [.s q] a.size U aL]at this
   exact this
  .rcases cD w with f|f
   .exact a.size Z f
   .rw[f];rfl
  .rcases aW j k with f|f
   .rw[cv V]at w
    exact yv.eH I bh _ _ (yv.eH K id _ _ (a.done j Z Q f w hd))
   .have:j=k:=V
    subst this
    rw[ac]at w
    simp at w;subst w
    rw[T]at hd;simp at hd;subst hd;exact L6
  .rw[cv V];exact a.jR j V
  .have al:∀(j:Nat)(r:List Ce)(b:O),j<k->i[j]? =some r->r[2]? =some (.s b)->q.len≠0->b.len≠0->q.D≠b.D:=λj r b p t l f C=>by
    let⟨Q,hd⟩:=cG h j;obtain⟨b',e,ib,_⟩:=a.done j r Q p t hd;rw[e]at l;simp at l;subst l;have x:Q.aF≠[]:=λe=>by have:=ib.len;rw[e]at this;simp at this;exact C this
    have az:c.aF≠[]:=λe=>by have:=iq.len;rw[e]at this;simp at this;exact f this
    have:=iJ ib x;have:=(ab az).2;omega
   intro B j P r L b D p A t S l aj f C
   by_cases ik:B=k
   .subst ik
    rw[ac]at A
    rw[cv aj]at t
    simp at A;subst A;simp at S;subst S
    exact al j r b V t l f C
   .rw[cv (λe=>ik e.symm)]at A
    by_cases jk:j=k
    .subst jk
     rw[ac]at t
     simp at t;subst t;simp at l;subst l
     exact kH (al B P L V A S C f)
    .rw[cv (λe=>jk e.symm)]at t
     exact a.sep B j P r L b V V A t S l aj f C
 .have e:∀{j:Nat}{z:List Ce},i[j]? =some z->j<k:=λp=>by have:=aw p;have:=a.len;omega
  exact⟨g,y,rfl,⟨i,a.qA,⟨a.len,a.size,λj z an R f=>a.done j z an (e R) R f⟩,λB j P r L b D p=>a.sep B j P r L b (e D) (e p) D p⟩,v,X2⟩
end Go.Proofs.YtkoifinbblcbiaaGreat
end
namespace Go.Proofs.YtkoifinbblcbiaaGreat
open Go.Vc
section
variable{a g:Nat->Nat}{m h e:E}{p:Nat->Prop}{s:St}{d:List (List Ce)}
structure Bs(e:E)(a:Nat->Nat)(m:E):Prop where
 cr:J e m
 jE:∀b,b<e.size->a b=0
 new:∀b,m.size<=b->a b=0
structure pB(e:E)(a:Nat->Nat)(m:E)(aS hp fr:O)(s:St):Prop where
 bs:Bs e a m
 aS:iL a m aA 1 2 aS (s.aS.map Ce.i)
 heap:dL e.size a m hp s.heap
 ao:nR a m fr s.ao
structure xe(s:St):Prop where
 aS:s.aS.length<=900000000
 fl:∀c∈s.heap,c.aF.length<=3
 heap:s.heap.length<=900000000
 depth:s.ao.length<=1000
 ao:∀f∈s.ao,f.ak.length<=1000000/\f.aR.length<=1000000/\f.ba.length<=1000000
def VK(e:E)(a:Nat->Nat)(m:E)(s:St)(v:Value)(h:E):Prop:=∃g aS c b,v=KB s aS c b/\pB e g h aS c b s/\dm (λ_=>False) a m g h
abbrev Xa:=dm (λk=>2<=k)
def Xa.none(c:Xa a m g h)(e:∀b,b<m.size->a b<=1):dm (λ_=>False) a m g h:=⟨c.size,c.gN,c.new,λb d _=>c.eA b d (oh (e b d))⟩
def dm.uc(b:dm (λ_=>False) a m g h):J m h:=⟨b.size,λc d=>b.eA c d id⟩
def Bs.eH(B:Bs e a m)(b:dm (λ_=>False) a m g h):Bs e g h:=⟨B.cr.trans b.uc,λc d=>by rw[b.gN c (B.cr.lt d)];exact B.jE c d,b.new⟩
def dm.aae(e:dm p a m g h){l:List Nat}(d:∀b∈l,b<m.size/\¬p (a b)):eG l m h:=λb c=>e.eA b (d b c).1 (d b c).2
structure UM(e:E)(a:Nat->Nat)(m:E)(g:Nat->Nat)(M:E)(q r:O)(s:St):Prop where
 eH:Xa a m g M
 aS:iL g M aA 1 2 q (s.aS.map Ce.i)
 heap:dL e.size g M r s.heap
def UM.nM{i j:Nat->Nat}{f g:E}{q r:O}(h:UM e a m i f q r s)(d:dm p i f j g)(c:∀k,p k->4<=k):UM e a m j g q r s:=
 ⟨h.eH.trans (d.mono λk b=>oh (c k b)),h.aS.eH d λb=>oh (c _ b),h.heap.eH d (λb=>oh (c _ b)) λb=>oh (c _ b)⟩
def zf{s:O}{n:Nat}(c:s.len=n)(g:d.length=n)(k:∀a∈d,a.length=6)(j:fS m s.D s.off d.flatten)(t:n<=1000000000):
 aN cq 58 [O.v s] m λv h=>∃r,v=O.v r/\gZ m h dP 6 r d.flatten/\J m h:=by
 apply mM
 refine⟨λb=>?_,λb=>?_⟩
 .cases s with
  |nil=>simp at c;have:d=[]:=List.length_eq_zero_iff.1 V;subst this;exact⟨.nil,rfl,gZ.nil _ _ _ _,J.az _⟩
  |mk a o f e=>simp at b
  |Af a o e=>simp at b
 .intro e
  have a:J m e:=(J.az m).aJ _
  have i:gZ m e dP 6 (.mk m.size 0 0 0) []:=gZ.new (J.az m) dP 6 [] 0 aL
  refine gZ.append (zs:=[.i 0,.i 0,.i 0,.s .nil,.s .nil,.s .nil]) (d:=d.flatten) i a (by rw[cw k,g,c];rfl) (a.iE j) bF λr h a f l o p q=>⟨r,rfl,by simpa using a,f⟩
structure ZN(a:Nat->Nat)(m:E)(r:O)(fs:List aY)(css0 d:List (List Ce))(k:Nat):Prop where
 qA:iL a m dP 6 4 r d.flatten
 len:d.length=fs.length
 size:∀cs∈d,cs.length=6
 done:∀(j:Nat)(cs:List Ce)(f:aY),j<k->d[j]? =some cs->fs[j]? =some f->Tu a m j cs f
 jR:∀j,k<=j->d[j]? =css0[j]?
def Rt{k o:Nat}{a:List Ce}{x:Ce}(e:∀a∈d,a.length=6)(b:d[k]? =some a)(g:o<6):jf d.flatten (k*6+o) [x]=(d.set k (a.set o x)).flatten/\(∀c∈d.set k (a.set o x),c.length=6)/\(d.set k (a.set o x))[k]? =some (a.set o x):=by
 refine⟨Cv d k a o [x] e b bF,λc f=>?_,dy (aw b)⟩;rcases cD f with h|h
 .exact e c h
 .rw[h,eg];exact e a (aq b)
def tC{aS hp w:O}(al:Bs e a m)(az:∀c,a c<=1)(T:gD m aS hp w s)(ae:xe s):aN cq 32 [KB s aS hp w] m (VK e a m s):=by
 apply yU;simp -zeta only[aD,aC];intro h A;have s1:h.size=m.size+1:=by simp[h]
 have s2:A.size=m.size+2:=by simp[A,s1]
 have x2:J m A:=((J.az m).aJ _).aJ _;obtain⟨G,ao⟩:∃G,G=nE (nE a m.size 8) h.size 8:=⟨_,rfl⟩;have C2:dm (λ_=>False) a m G A:=by
  rw[ao];exact(dm.nE (m':=h) (k:=8) ((J.az m).aJ _) al.new (ad _) V).trans (dm.nE (m':=A) (k:=8) ((J.az h).aJ _) (λc hb=>by rw[eJ V];exact al.new c V) (ad _) V)
 have r0:G m.size=8/\G h.size=8:=by rw[ao];exact⟨by rw[eJ V,fg],fg _ _ _⟩
 have a2:∀c,G c=8\/G c<=1:=λc=>by
  rw[ao];unfold nE;split
  .exact Or.inl rfl
  .split
   .exact Or.inl rfl
   .exact Or.inr (az c)
 have aZ:cz A h.size iA [.i 0,.i 0,.i 0,.i 0,.s .nil,.s .nil,.s .nil]:=cz.push h _ _;have bq:cz A m.size iA [.i s.cB,.i s.value,.i s.bu,.i s.dT,.s aS,.s hp,.s w]:=(cz.push m _ _).ext (J.push h _);clear_value A;clear ao;have hN:=al.cr.size;have bo:=ae.aS;have bn:=ae.heap;have bj:=ae.depth;refine(eO (T.aS.ext x2) V).mono ?_;rintro _ m3 ⟨ai,rfl,oq,H⟩;let⟨ba,C3,A3,a3⟩:=gZ.DU oq H C2.new 2;have z3:=H.size;have kp:∀{M M':E},J M M'->m.size<M.size->∀i,af M' m.size i=af M m.size i:=λhx ac i=>aE (hx.same _ ac) i;have X3:=x2.trans H;refine⟨H.dp bF,ai,rfl,kp H V _,kp H V _,(Gj (N:=e.size) C3.new (λc _=>PA (a3 c) (a2 c)) (T.ext X3).heap V ae.fl V).mono ?_⟩;rintro _ m4 ⟨bb,aj,rfl,H4,Y,x4⟩;have z4:=x4.size;have X4:=X3.trans x4;have K4:UM e a m bb m4 ai aj s:=⟨((C2.trans C3).mono λ_=>False.elim:Xa a m ba m3).trans (Y.mono λb R=>V),A3.eH Y bh,H4⟩;have aY:=T.ao.len;let⟨an,q,jx⟩:=(T.ext X4).ao.Ut (λQ ak⟨_,_,_,t,_⟩=>by rw[t];rfl);refine⟨x4.dp bF,aj,rfl,kp x4 V _,(zf aY q.len q.size jx V).mono ?_⟩;rintro _ m5 ⟨fc,rfl,of,x5⟩;let⟨u,K,A5,br⟩:=gZ.DU of x5 Y.new 4;have z5:=x5.size;have K5:=K4.nM K λ_=>False.elim;refine⟨x5.dp bF,fc,rfl,?_⟩;intro m6 m7 F;have r5:u m.size=8/\u h.size=8:=⟨by rw[K.gN _ V,Y.gN _ V,C3.gN _ V];exact r0.1,by rw[K.gN _ V,Y.gN _ V,C3.gN _ V];exact r0.2⟩;have C8:dm (λb=>b=8) u m5 u F:=((dm.ah K.new (show(λb=>b=8) (u m.size)from r5.1) _ _).trans (dm.ah (by rw[av];exact K.new) (show(λb=>b=8) (u m.size)from r5.1) _ _)).trans (dm.ah (by rw[av,av];exact K.new) (show(λb=>b=8) (u m.size)from r5.1) _ _);have K8:UM e a m u F ai aj s:=K5.nM C8 λb R=>V;have A8:iL u F dP 6 4 fc an.flatten:=A5.eH C8 bh;have a0:cz F h.size iA [.i 0,.i 0,.i 0,.i 0,.s .nil,.s .nil,.s .nil]:=((aZ.ext (H.trans (x4.trans x5))).congr (by
  show(ah (ah (ah m5 m.size 4 _) m.size 5 _) m.size 6 _)[h.size]? =_;rw[bd _ _ _ _ V,bd _ _ _ _ V,bd _ _ _ _ V]))
 have s8:F.size=m5.size:=by simp[F,m7,m6,av]
 clear_value F;have bm:fc.len=s.ao.length:=by have:=A8.len;rw[cw q.size,q.len]at this;omega
 refine dV (n:=s.ao.length) V (λb M=>∃g d,UM e a m g M ai aj s/\ZN g M fc s.ao an d b/\m5.size<=M.size/\g m.size=8/\g h.size=8/\cz M h.size iA [.i 0,.i 0,.i 0,.i 0,.s .nil,.s .nil,.s .nil])
  ⟨u,an,K8,⟨A8,q.len,q.size,λy _ _ hj=>absurd hj (eX _),λ_ _=>rfl⟩,V,r5.1,r5.2,a0⟩ ?_
 rintro b l bc μ R ⟨B,d,Z,f,z9,r9,aJ,a1⟩ a6
 have en:Int.toNat (b:Int)=b:=V;rw[en];have aQ:∀{g:Nat->Nat}{M:E},Xa a m g M->J m M:=λaO=>(aO.none λc _=>az c).uc;refine dit (λh1=>?_) λh1=>?_
 .have aI:b<s.ao.length:=V;let⟨j,hf⟩:=dC aI;have bk:=ae.ao j (aq hf);let⟨aP,ab⟩:=cG an b (by rw[q.len];exact aI);let⟨ra,oa,ha,e0,ir,io,ih⟩:=q.dA b aP j ab hf;have aH:d[b]? =some [.i j.fI,.i j.pc,.i j.dst,.s ra,.s oa,.s ha]:=by rw[f.jR b (ad _),ab,e0]
  have S:∀(i:Nat)(ak:Ce),[Ce.i j.fI,.i j.pc,.i j.dst,.s ra,.s oa,.s ha][i]? =some ak->af l fc.D (fc.off+b*6+i)=some ak.v:=λi ak hx=>by
   have:=f.qA.iE (b*6+i) ak (fZ f.size aH hx);rwa[<-di]at this
  obtain⟨r',o',h',jr,jo,jh,_,_,_,y3,y4,y5⟩:=T.ao.aH hf;have X9:=aQ Z.eH;have er:r'=ra/\o'=oa/\h'=ha:=by
   obtain⟨bf,⟨be,b1,c1,e1,_⟩,bp⟩:=T.ao.iE b j hf;have g3:af m4 w.D (w.off+b*6+3)=some (O.v ra):=by
    have:=jx (b*6+3) (.s ra) (fZ q.size ab (by rw[e0];rfl));rwa[<-di]at this
   have g4:af m4 w.D (w.off+b*6+4)=some (O.v oa):=by
    have:=jx (b*6+4) (.s oa) (fZ q.size ab (by rw[e0];rfl));rwa[<-di]at this
   have g5:af m4 w.D (w.off+b*6+5)=some (O.v ha):=by
    have:=jx (b*6+5) (.s ha) (fZ q.size ab (by rw[e0];rfl));rwa[<-di]at this
   rw[X4.af y3]at g3;rw[X4.af y4]at g4;rw[X4.af y5]at g5;exact⟨O.Cc.1 (jO g3),O.Cc.1 (jO g4),O.Cc.1 (jO g5)⟩
  obtain⟨rfl,rfl,rfl⟩:=er;refine⟨V,V,_,S 0 _ rfl,_,S 1 _ rfl,_,S 2 _ rfl,_,S 3 _ rfl,_,S 4 _ rfl,_,S 5 _ rfl,?_⟩;intro aA U;have ar:J l U:=((J.az l).aJ _).ah (ad _) _ _;have bw:U.size=l.size+1:=by simp[U,aA,av]
  clear_value U;have aG:dm (λ_=>False) B l (nE B l.size 8) U:=dm.nE ar Z.eH.new (ad _) V 8;refine(eO (jr.ext (X9.trans ar)) V).mono ?_;rintro _ bs ⟨qr,rfl,a7,v⟩;obtain⟨bu,ay,aK,_⟩:=gZ.DU a7 v aG.new (10+3*b);have bz:=v.size;have p:∀{M M':E}{c:Nat},J M M'->c<M.size->∀i,af M' c i=af M c i:=λhx ac i=>aE (hx.same _ ac) i;have bl:∀{M:E},U.size<=M.size->∀c∈[l.size,m.size,h.size],c<M.size:=λbg c hb=>by simp at hb;omega
  refine⟨v.dp (bl (ad _)),qr,rfl,p v V _,p v V _,p v V _,p v V _,p v V _,(eO (jo.ext (X9.trans (ar.trans v))) V).mono ?_⟩;rintro _ bt ⟨qo,rfl,a8,C⟩;obtain⟨bv,am,aL,_⟩:=gZ.DU a8 C ay.new (11+3*b);have bA:=C.size;refine⟨C.dp (bl V),qo,rfl,p C V _,p C V _,p C V _,p C V _,(eO (jh.ext (X9.trans (ar.trans (v.trans C)))) V).mono ?_⟩;rintro _ aB ⟨qh,rfl,a9,X⟩;obtain⟨r,D,aM,_⟩:=gZ.DU a9 X am.new (12+3*b);have bB:=X.size;have L:dm (λ_=>False) B l r aB:=((aG.trans ay).trans am).trans D;have P:r l.size=8/\r m.size=8/\r h.size=8:=⟨by rw[D.gN _ V,am.gN _ V,ay.gN _ V];exact fg _ _ _,by rw[L.gN _ V];exact r9,by rw[L.gN _ V];exact aJ⟩;have A9:=f.qA.eH L id;have aX:fc.cap≠0:=λt=>by have:=f.qA.le;omega
  have W:=A9.D aX;have a_:fc.D≠m.size/\fc.D≠h.size/\fc.D≠l.size:=⟨λt=>by have:=W.2;rw[t,P.2.1]at this;omega,λt=>by have:=W.2;rw[t,P.2.2]at this;omega,λt=>by have:=W.2;rw[t,P.1]at this;omega⟩;have bi:=f.len;have uS:∀z,z<6->b*6+z+1<=d.flatten.length:=λz ho=>by rw[cw f.size];have:(b+1)*6<=d.length*6:=dg _ V;omega
  have sm:∀{M:E}(z:Nat)(ag:List Ce),eG [l.size,m.size,h.size] M (ah M fc.D z ag):=λz ag c hb=>bd _ _ _ _ (by simp at hb;omega);have gg:∀{M:E}(z:Nat)(ag:List Ce)(i:Nat),af (ah M fc.D z ag) m.size i=af M m.size i:=λz ag i=>aE (bd _ _ _ _ (λt=>a_.1 t.symm)) i;refine⟨X.dp (bl V),qh,rfl,p X V _,p X V _,p X V _,V,V,?_⟩;simp -zeta only[di];refine⟨A9.wr (uS 3 bh),?_⟩;let⟨e1,f1,aT⟩:=Rt (x:=.s qr) (o:=3) f.size aH bh;have au:=A9.set (o:=b*6+3) (new:=[.s qr]) (uS 3 bh);rw[e1]at au;intro a4;let⟨e2,f2,aU⟩:=Rt (x:=.s qo) (o:=4) f1 aT bh;have ax:=au.set (o:=b*6+4) (new:=[.s qo]) (by have:=uS 4 bh;rw[cw f.size]at this;rw[cw f1,eg];exact this);rw[e2]at ax;refine⟨sm _ _,gg _ _ _,gg _ _ _,V,V,au.wr (by have:=uS 4 bh;rw[cw f.size]at this;rw[cw f1,eg];exact this),?_⟩;intro a5;let⟨e3,f3,aV⟩:=Rt (x:=.s qh) (o:=5) f2 aU bh;have aF:=ax.set (o:=b*6+5) (new:=[.s qh]) (by have:=uS 5 bh;rw[cw f.size]at this;rw[cw f2,eg,eg];exact this);rw[e3]at aF;refine⟨sm _ _,gg _ _ _,V,V,ax.wr (by have:=uS 5 bh;rw[cw f.size]at this;rw[cw f2,eg,eg];exact this),?_⟩;intro ap;have I:dm (λb=>b=4) r aB r ap:=((dm.ah D.new (show(λb=>b=4) (r fc.D)from W.2) _ _).trans (dm.ah (by rw[av];exact D.new) (show(λb=>b=4) (r fc.D)from W.2) _ _)).trans (dm.ah (by rw[av,av];exact D.new) (show(λb=>b=4) (r fc.D)from W.2) _ _);have bx:ap.size=aB.size:=by simp[ap,a5,a4,av]
  have tm:Tu r ap b [.i j.fI,.i j.pc,.i j.dst,.s qr,.s qo,.s qh] j:=⟨qr,qo,qh,rfl,(((aK.eH am id).eH D id).eH I V),(aL.eH D id).eH I V,aM.eH I V⟩;refine⟨sm _ _,a6 V _ ⟨r,_,(Z.nM L λ_=>False.elim).nM I λb R=>V,⟨aF,by simp;exact f.len,f3,λy Q aR hj aa hg=>?_,λy hj=>?_⟩,V,P.2.1,P.2.2,(a1.ext L.uc).congr (I.eA _ V (by rw[P.2.2];decide))⟩⟩
  .rcases aW y b with h5|h5
   .rw[cv V,cv V,cv V]at aa;exact((f.done y Q aR h5 aa hg).eH L λ_ _ _=>id).eH I λb R _=>V
   .have:y=b:=V;subst this;rw[aV]at aa;simp at aa;subst aa;rw[hf]at hg;simp at hg;subst hg;exact tm
  .rw[cv V,cv V,cv V];exact f.jR y V
 .intro aA;have r:dm (λb=>b=8) B l B aA:=dm.ah Z.eH.new (show(λb=>b=8) (B h.size)from aJ) _ _;have p:=Z.nM r λb R=>V;have ac:∀{y:Nat}{Q:List Ce},d[y]? =some Q->y<b:=λhj=>by have:=aw hj;have:=f.len;omega
  have v:nR B l fc s.ao:=⟨d,f.qA,f.len,f.size,λi Q j h1 t=>f.done i Q j (ac h1) h1 t⟩;have D:=p.eH.none λc _=>az c;exact⟨B,ai,aj,fc,rfl,⟨al.eH D,p.aS,p.heap,v.eH r λb R=>V⟩,D⟩
end
section
variable{d:Nat->Nat}{e:E}
abbrev z7:List Ce:=[.i 0,.i 0,.i 0,.i 0,.s .nil,.s .nil,.s .nil]
structure NJ(m0:E)(ro:Nat->Nat)(m m2:E)(s:St)(ro':Nat->Nat)(M:E)(q r:Option O)(ob:Option Nat):Prop where
 eH:Xa ro m ro' M
 ext:J m2 M
 ZB:r=none->∀b,ro' b≠3
 box:∀b,m.size<=b->b<m2.size->ro' b=8
 aS:∀x,q=some x->iL ro' M aA 1 2 x (s.aS.map Ce.i)
 heap:∀x,r=some x->dL m0.size ro' M x s.heap
 ob:∀x,ob=some x->m2.size<=x/\ro' x=8/\cz M x iA z7
section
variable{h:E}{i:Nat->Nat}{m g:E}{s:St}{f:Nat->Nat}{M:E}{q r:Option O}{j:Option Nat}
def NJ.ic(k:NJ h i m g s f M q r j)(n:dm (λa=>a=3) f M d e)(p:J M e)(C:∀b,m.size<=b->b<g.size->d b=8){u o:Option O}{t:Option Nat}(z:r=none\/dm (λ_=>False) f M d e)(B:o=none->∀b,d b≠3)
 (w:∀x,u=some x->q=some x\/iL d e aA 1 2 x (s.aS.map Ce.i))(y:∀x,o=some x->r=some x\/dL h.size d e x s.heap)(A:∀x,t=some x->j=some x\/(g.size<=x/\d x=8/\cz e x iA z7)):NJ h i m g s d e u o t:=
 ⟨k.eH.trans (n.mono λa c=>V),k.ext.trans p,B,C,λx c=>(w x c).elim (λa=>(k.aS x a).eH n bh) id,
  λx c=>(y x c).elim (λa=>z.elim (λl=>by rw[l]at a;cases a) λl=>(k.heap x a).eH l id id) id,
  λx c=>(A x c).elim (λa=>by
   let⟨v,b,l⟩:=k.ob x a;exact⟨v,by rw[n.gN _ l.lt];exact b,l.ext p⟩) id⟩
def NJ.Sc(a:NJ h i m g s f M q r j){p:Nat->Prop}(l:dm p f M d e):∀b,m.size<=b->b<g.size->d b=8:=λb k c=>by rw[l.gN b (a.ext.lt c)];exact a.box b k c
def NJ.c(b:NJ h i m g s f M none r j){x:O}(n:gZ M e aA 1 x (s.aS.map Ce.i))(k:J M e):∃d,NJ h i m g s d e (some x) r j:=by
 let⟨d,C,A,l⟩:=gZ.DU n k b.eH.new 2;exact⟨d,b.ic (C.mono λ_=>False.elim) k (b.Sc C) (Or.inr C) (λa c=>PA (l c) (b.ZB a c)) (λy a=>Or.inr (by simp at a;subst a;exact A)) (λy a=>Or.inl a) λy a=>Or.inl a⟩
def NJ.a(b:NJ h i m g s f M q r j)(c:J M e):NJ h i m g s f e q r j:=
 have C:dm (λ_=>False) f M f e:=dm.eD _ c b.eH.new
 b.ic (C.mono λ_=>False.elim) c (b.Sc C) (Or.inr C) b.ZB (λy a=>Or.inl a) (λy a=>Or.inl a) λy a=>Or.inl a
def NJ.b(b:NJ h i m g s f M q r none){e:E}(a:e=M.push (.cells (bt z7) iA)):∃d,NJ h i m g s d e q r (some M.size):=by
 have l:J M e:=by rw[a];exact J.push _ _
 have C:dm (λ_=>False) f M (nE f M.size 8) e:=dm.nE l b.eH.new (ad _) (by rw[a];simp) 8;refine⟨_,b.ic (C.mono λ_=>False.elim) l (b.Sc C) (Or.inr C) (λn c=>?_) (λy a=>Or.inl a) (λy a=>Or.inl a) λy j=>Or.inr ?_⟩
 .by_cases k:c=M.size
  .rw[k,fg];decide
  .rw[eJ k];exact b.ZB n c
 .simp at j;subst j;exact⟨b.ext.size,fg _ _ _,by rw[a];exact cz.push _ _ _⟩
end
def qe{w:E}{u:Nat->Nat}{a:E}{aS hp fr:O}{s:St}(aj:Bs w u a)(au:∀c,u c<=1)(hs:gD a aS hp fr s)(ag:xe s):aN cq 35 [KB s aS hp fr] a (VK w u a s):=by
 apply A2;simp -zeta only[aD,aC];intro v i;have s1:v.size=a.size+1:=by simp[v]
 have s2:i.size=a.size+2:=by simp[i,s1]
 have x2:J a i:=((J.az a).aJ _).aJ _;obtain⟨d,an⟩:∃d,d=nE (nE u a.size 8) v.size 8:=⟨_,rfl⟩;have C2:dm (λ_=>False) u a d i:=by
  rw[an];exact(dm.nE (m':=v) (k:=8) ((J.az a).aJ _) aj.new (ad _) V).trans (dm.nE (m':=i) (k:=8) ((J.az v).aJ _) (λc K=>by rw[eJ V];exact aj.new c V) (ad _) V)
 have r0:d a.size=8/\d v.size=8:=by rw[an];exact⟨by rw[eJ V,fg],fg _ _ _⟩
 have I:NJ w u a i s d i none none none:=by
  refine⟨C2.mono λ_=>False.elim,J.az _,λ_ c=>?_,λc h1 h2=>?_,aL,aL,aL⟩
  .rw[an];unfold nE;split
   .decide
   .split
    .decide
    .have:=au c;omega
  .rcases aW c v.size with h|h
   .have:c=a.size:=V;subst this;exact r0.1
   .have:c=v.size:=V;subst this;exact r0.2
 clear_value i;clear an;have hN:=aj.cr.size;have a_:=ag.aS;have a9:=ag.heap;have a6:=ag.depth;have cC:∀{b:Nat->Nat}{M:E}{j:Option O}{l:Option Nat}{Z:Value->E->Prop},NJ w u a i s b M none j l->(∀A g F,NJ w u a i s F g (some A) j l->J M g->M.size<=g.size->Z (O.v A) g)->aN cq 66 [O.v aS] M Z:=λh hK=>
  (gW (hs.aS.ext (x2.trans h.ext)) V).mono λ_ g⟨A,p,z,y⟩=>by
   let⟨F,h'⟩:=h.c z y;rw[p];exact hK A g F h' y y.size
 have cH:∀{b:Nat->Nat}{M:E}{q:Option O}{l:Option Nat}{Z:Value->E->Prop},NJ w u a i s b M q none l->(∀A g F,NJ w u a i s F g q (some A) l->J M g->M.size<=g.size->Z (O.v A) g)->aN cq 67 [O.v hp] M Z:=λ{b M q l Z} h hK=>
  (IK (N:=w.size) h.eH.new (λc _=>h.ZB rfl c) (hs.ext (x2.trans h.ext)).heap (oh h.ext.size) ag.fl V).mono λ_ g⟨F,A,p,aP,ak,y⟩=>by
   rw[p];exact hK A g F (h.ic ak y (h.Sc ak) (Or.inl rfl) (λp=>by cases p) (λe p=>Or.inl p) (λe p=>Or.inr (by simp at p;subst p;exact aP)) λe p=>Or.inl p) y y.size
 have kp:∀{M g:E},J M g->i.size<=M.size->∀L,af g a.size L=af M a.size L:=λy aA L=>aE (y.same _ V) L;refine⟨λz M=>z.2=0/\∃b q j fb,UM w u a b M q j s/\i.size<=z.1/\i.size<=M.size/\b z.1=8/\b a.size=8/\b v.size=8/\cz M z.1 iA [.i s.cB,.i s.value,.i s.bu,.i s.dT,.s q,.s j,.s (.mk fb 0 0 0)],?_,?_⟩
 .have iI:∀{b:Nat->Nat}{M:E}{q j:O}{l fb:Nat},NJ w u a i s b M (some q) (some j) (some l)->(λ(z:Nat×Nat) M=>z.2=0/\∃b q j fb,UM w u a b M q j s/\i.size<=z.1/\i.size<=M.size/\b z.1=8/\b a.size=8/\b v.size=8/\cz M z.1 iA [.i s.cB,.i s.value,.i s.bu,.i s.dT,.s q,.s j,.s (.mk fb 0 0 0)]) (l,0) (ah M l 0 [.i s.cB,.i s.value,.i s.bu,.i s.dT,.s q,.s j,.s (.mk fb 0 0 0)]):=λ{b M q j l fb} h=>by
   let⟨G,c,ar⟩:=h.ob l rfl;have ak:dm (λe=>e=8) b M b (ah M l 0 [.i s.cB,.i s.value,.i s.bu,.i s.dT,.s q,.s j,.s (.mk fb 0 0 0)]):=dm.ah h.eH.new c _ _;exact⟨rfl,b,q,j,fb,(⟨h.eH,h.aS q rfl,h.heap j rfl⟩:UM w u a b M q j s).nM ak λe hk=>V,G,by rw[av];exact h.ext.size,c,h.box _ V V,h.box _ V V,cz.ah (m:=M) (o:=0) ar⟩
  have t:i.size<=i.size:=ad _;repeat' first
   |exact iI I
   |(refine cC I ?_;intro A g F I B C;have D:=t;have t:=bJ t C)
   |(refine cH I ?_;intro A g F I B C;have D:=t;have t:=bJ t C)
   |(intro C;have B:J _ C:=(J.az _).aJ _;have H:Array.size C=_+1:=Array.size_push _;have D:=t;have t:=bJ t B.size;first|(obtain⟨F,I⟩:=I.b (e:=C) rfl;clear_value C)|(have I:=I.a B;clear_value C))
   |(refine And.intro (kp B D _) ?_)
   |(refine And.intro (J.dp B λc K=>by simp at K;omega) ?_)
   |(refine⟨_,rfl,?_⟩)
   |(refine And.intro ?_ ?_)
 .rintro⟨l,oo⟩ m3 ⟨rfl,a4,q,j,fb,K3,aT,z3,r3,a1,a2,aF⟩;simp only[]at aT r3 aF;have aQ:∀{b:Nat->Nat}{M:E},Xa u a b M->J a M:=λar=>(ar.none λc _=>au c).uc;have a8:=hs.ao.len;simp -zeta only[bT];refine dV (n:=s.ao.length) V (λe M=>∃b fc,UM w u a b M q j s/\nR b M fc (s.ao.take e)/\i.size<=M.size/\b l=8/\b a.size=8/\b v.size=8/\cz M l iA [.i s.cB,.i s.value,.i s.bu,.i s.dT,.s q,.s j,.s fc])
   ⟨a4,_,K3,⟨[],⟨aL,aL,Or.inl rfl⟩,aL,aL,aL⟩,z3,r3,a1,a2,aF⟩ ?_
  rintro e D a5 μ hk ⟨W,fc,K9,F9,z9,r9,a3,aH,C⟩ aX
  have en:Int.toNat (e:Int)=e:=V;rw[en];have H:=aQ K9.eH;have ba:=C.lt;refine dit (λh1=>?_) λh1=>?_
  .have aR:e<s.ao.length:=V;let⟨ae,hf⟩:=dC aR;have a7:=ag.ao ae (aq hf);let⟨ra,oa,ha,ir,io,ih,g0,g1,g2,g3,g4,g5⟩:=hs.ao.aH hf;refine⟨V,V,_,H.af g0,_,H.af g1,_,H.af g2,ra,H.af g3,oa,H.af g4,ha,H.af g5,?_⟩;intro aw aa;have ai:J D aa:=((J.az D).aJ _).ah (ad _) _ _;have bg:aa.size=D.size+1:=by simp[aa,aw,av]
   clear_value aa;have ay:dm (λ_=>False) W D (nE W D.size 8) aa:=dm.nE ai K9.eH.new (ad _) V 8;have t:∀{M g:E}{c:Nat},J M g->c<M.size->∀L,af g c L=af M c L:=λy aA L=>aE (y.same _ aA) L;have bl:∀{M:E},aa.size<=M.size->∀c∈[D.size,v.size,a.size],c<M.size:=λh c K=>by simp at K;omega
   refine⟨fc,(C.ext ai).cg 6,(gW (ir.ext (H.trans ai)) V).mono ?_⟩;rintro _ bb ⟨qr,rfl,aY,B⟩;obtain⟨be,ap,aJ,_⟩:=gZ.DU aY B ay.new (10+3*e);have bj:=B.size;refine⟨B.dp (bl (ad _)),qr,rfl,t B V _,t B V _,t B V _,t B V _,t B V _,t B V _,(gW (io.ext (H.trans (ai.trans B))) V).mono ?_⟩;rintro _ bc ⟨qo,rfl,aZ,P⟩;obtain⟨bf,al,aK,_⟩:=gZ.DU aZ P ap.new (11+3*e);have bk:=P.size;refine⟨P.dp (bl V),qo,rfl,t P V _,t P V _,t P V _,t P V _,t P V _,(gW (ih.ext (H.trans (ai.trans (B.trans P)))) V).mono ?_⟩;rintro _ S ⟨qh,rfl,a0,X⟩;obtain⟨U,ab,aM,_⟩:=gZ.DU a0 X al.new (12+3*e);have bm:=X.size;refine⟨X.dp (bl V),qh,rfl,t X V _,t X V _,t X V _,t X V _,?_⟩;intro T;have aI:J S T:=(J.az S).aJ _;have bh:T.size=S.size+1:=by simp[T]
   have aV:cz T S.size dP [.i ae.fI,.i ae.pc,.i ae.dst,.s qr,.s qo,.s qh]:=cz.push S _ _;clear_value T;have ac:dm (λ_=>False) U S U T:=dm.eD _ aI ab.new;have Y:dm (λ_=>False) W D U T:=(((ay.trans ap).trans al).trans ab).trans ac;have Q:U D.size=8/\U a.size=8/\U v.size=8/\U l=8:=⟨by rw[ab.gN _ V,al.gN _ V,ap.gN _ V];exact fg _ _ _,by rw[Y.gN _ V];exact a3,by rw[Y.gN _ V];exact aH,by rw[Y.gN _ V];exact r9⟩;have tk:(s.ao.take e).length=e:=bF;refine⟨t aI V _,nR.push (a:=ae) (F9.eH Y λ_ _=>id) ac.new (x:=.mk S.size 0 1 1) rfl aV.iE (by rw[tk];exact(((aJ.eH al id).eH ab id).eH ac id)) (by rw[tk];exact(aK.eH ab id).eH ac id) (by rw[tk];exact aM.eH ac id) V λR az ao aO G=>?_⟩;have bn:=G.size;have am:R D.size=8/\R a.size=8/\R v.size=8/\R l=8:=⟨by rw[G.gN _ V];exact Q.1,by rw[G.gN _ V];exact Q.2.1,by rw[G.gN _ V];exact Q.2.2.1,by rw[G.gN _ V];exact Q.2.2.2⟩;have aB:cz ao l iA [.i s.cB,.i s.value,.i s.bu,.i s.dT,.s q,.s j,.s fc]:=(C.ext Y.uc).congr (G.eA _ V (by rw[Q.2.2.2];decide));refine⟨G.aae λc K=>by simp at K;rcases K with p|p|p<;>rw[p]<;>refine⟨V,?_⟩<;>simp[Q.1,Q.2.1,Q.2.2.1],aB.fN aL,?_⟩;intro aG;have ax:dm (λe=>e=8) R ao R aG:=dm.ah G.new (show(λe=>e=8) (R l)from am.2.2.2) _ _;have bi:aG.size=ao.size:=av _ _ _ _;refine⟨λc K=>bd _ _ _ _ (by simp at K;omega),aX V _ ⟨R,az,((K9.nM Y λ_=>False.elim).nM G λe hk=>V).nM ax λe hk=>V,?_,V,am.2.2.2,am.2.1,am.2.2.1,cz.ah (m:=ao) (o:=6) (r:=[.s az]) aB⟩⟩;rw[aU hf];exact aO.eH ax λe hk=>V
  .rw[bY V]at F9;refine⟨_,C.cg 0,_,C.cg 1,_,C.cg 2,_,C.cg 3,_,C.cg 4,_,C.cg 5,_,C.cg 6,?_⟩;intro aw;have B:dm (λe=>e=8) W D W aw:=dm.ah K9.eH.new (show(λe=>e=8) (W v.size)from aH) _ _;have t:=K9.nM B λe hk=>V;have G:=t.eH.none λc _=>au c;exact⟨W,q,j,fc,rfl,⟨aj.eH G,t.aS,t.heap,F9.eH B λe hk=>V⟩,G⟩
end
section
variable{n e:Nat}{m2 mx M a:E}
def uh:St:=⟨0,0,0,0,[],[],[]⟩
structure Zu where
 s:St
 ok:Bool
open Classical in
noncomputable def nD (b:cR) (s:St) (a:Int):Zu:=if cX b s/\0<=a/\a<=100000 then⟨aB b a.toNat s,true⟩else⟨uh,false⟩
def Td{a:cR}{s:St}:nD a s 1=(open Classical in if cX a s then⟨nM a s,true⟩else⟨uh,false⟩):=by
 unfold nD;rcases dR (cX a s)with h|h
 .rw[an ⟨h,bh,bh⟩,an h];rfl
 .rw[ae λb=>h b.1,ae h]
def cX.iK{j:cR}{s:St}(h:cX j s)(b:Sm n s)(o:n<=900000000):xe s:=by
 refine⟨by have:=b.aS;omega,λc e=>(h.heap.cell c e).fl,oh b.heap,?_,λf g=>?_⟩
 .have:=h.depth;have:=h.bu;have:=h.dT;omega
 .have a:=h.ao f g;obtain⟨p,_,i,d,_⟩:=a.JB h.fm;have k:=a.lr;have l:=a.lo;have m:=a.lh;rw[i]at k l m;have:=d.ak;omega
def yO.sm{s:St}(h:yO s)(a:s.heap.length<=n)(b:s.aS.length<=n):Sm n s:=⟨a,b,λg c w d=>((h.ao g c).1 w d).2⟩
section
variable{b:E}{c:Nat->Nat}{m:E}{aS f d:O}{s:St}
def pB.zd(h:pB b c m aS f d s)(a:xe s):gD m aS f d s:=
 ⟨h.aS.nV (oh a.aS),h.heap.cells (oh a.heap),h.ao.zd (oh a.depth) a.ao⟩
def pB.cO(h:pB b c m aS f d s)(j:J m m2){a:Nat}{g:List Ce}(i:m.size<=a)(kb:cz m2 a e g):vt b (nE c a 1) m2 a e g aS f d s.aS s.heap s.ao:=by
 have C:dm (λ_=>False) c m (nE c a 1) m2:=dm.nE j h.bs.new i kb.lt 1;have B:=h.bs.eH C;exact⟨B.cr,B.jE,B.new,kb,fg _ _ _,h.aS.eH C id,h.heap.eH C id id,h.ao.eH C λ_ _=>id⟩
def pB.nil{b m:E}(a:J b m):pB b (λ_=>0) m .nil .nil .nil uh:=
 ⟨⟨a,λ_ _=>rfl,λ_ _=>rfl⟩,⟨by simp[uh],aL,Or.inl rfl⟩,⟨[],⟨aL,aL,Or.inl rfl⟩,by simpa[uh]using gU.nil _ _,XN.nil⟩,nR.none⟩
def vt.zd{h e:Nat}{a:List Ce}(L:vt b c m h e a aS f d s.aS s.heap s.ao)(g:xe s):gD m aS f d s:=
 pB.zd (c:=c) ⟨⟨L.cr,L.jE,L.new⟩,L.aS,L.heap,L.ao⟩ g
end
def TF(m:E)(x:Zu)(v:Value)(c:E):Prop:=∃d aS b a,v=.tuple #[KB x.s aS b a,vb x.ok]/\pB m d c aS b a x.s
def iL.up{a:Nat->Nat}{m d:E}{f k:Nat}{s:O}{l:List Ce}(h:iL a m e f k s l)(j:k≠0)(g:∀b,b<mx.size->a b=0)(i:∀b,mx.size<=b->b<m.size->d[b]? =m[b]?):iL a d e f k s l:=
 h.eA (λc=>i _ (HK λn=>j (by rw[<-(h.D c).2];exact g _ n)) (h.D c).1) λ_=>rfl
def pB.Ro{m:E}{q:Nat->Nat}{aS p n:O}{s:St}(h:pB mx q M aS p n s)(y:m.size<=mx.size)(z:M.size<=a.size)(c:∀b,mx.size<=b->b<M.size->a[b]? =M[b]?)(w:J m a):pB m q a aS p n s:=by
 have d:=h.bs.jE;refine⟨⟨w,λb f=>d b V,λb f=>h.bs.new b V⟩,h.aS.up bh d c,?_,?_⟩
 .let⟨g,r,a2,a3⟩:=h.heap;refine⟨g,r.up bh d c,a2.mono λj x⟨i,u,k,l⟩=>⟨i,u,iU k λf=>c _ (l f).2.1 (iJ k f),λf=>?_⟩,a3⟩;let⟨g1,g2,t,tail,v,o⟩:=l f;exact⟨g1,V,t,tail,v,o.congr (c _ g2 o.lt)⟩
 .let⟨g,f⟩:=h.ao;exact⟨g,f.qA.up bh d c,f.len,f.size,λr j i k l=>by
   let⟨u,t,o,e,b1,b2,b3⟩:=f.dA r j i k l;exact⟨u,t,o,e,b1.up V d c,b2.up V d c,b3.up V d c⟩⟩
def pB.box{m:E}{d:Nat->Nat}{aS b a:O}{s:St}(h:pB mx d M aS b a s)(c:J m mx){nb:Nat}(e:m.size<=nb)(g:nb<mx.size)(o:Nat)(l:List Ce):pB m d (ah M nb o l) aS b a s:=
 h.Ro c.size (uq (av _ _ _ _).symm) (λf i _=>bd _ _ _ _ V) ((c.trans h.bs.cr).ah e _ _)
def pB.ext{e:E}{f:Nat->Nat}{aS d c:O}{s:St}(h:pB e f M aS d c s)(b:J M a):pB e f a aS d c s:=h.Ro (ad _) b.size (λg _ i=>b.same g i) (h.bs.cr.trans b)
def Bs.ze(m:E):Bs m (λ_=>0) m:=⟨J.az _,λ_ _=>rfl,λ_ _=>rfl⟩
section
variable{m:E}{d p aS j i:O}{c:cR}{s:St}
def Cy{m:E}{nb:Nat}(c:J m m2)(a:J m2 M)(b:m.size<=nb){x:Zu}(d:x=⟨uh,false⟩)(l:List Ce):TF m x (.tuple #[.agg #[vi (0:Int),vi (0:Int),vi (0:Int),vi (0:Int),O.v O.nil,O.v O.nil,O.v O.nil],vb false]) (ah M nb 0 l):=by
 subst d;exact⟨_,.nil,.nil,.nil,rfl,pB.nil ((c.trans a).ah b _ _)⟩
variable(f:fj m d p c)(g:gD m aS j i s)(b:yO s)(h:s.aS.length<=10000000)
include f g b h
omit f g in
def Q5:Sm 10000000 s:=b.sm b.lh h
omit f g in
def Qn(d:Int):xe (nD c s d).s:=by
 unfold nD;split
 .rename_i a;exact(tY _ a.1).iK (tZ _ a.1 (b.sm b.lh h) V) V
 .exact⟨by simp[uh],by simp[uh],by simp[uh],by simp[uh],by simp[uh]⟩
def IA(x:Int):aN cq 20 [.agg #[O.v d,O.v p],KB s aS j i,vi x] m (TF m (nD c s x)):=by
 apply CM;simp -zeta only[aD,aC];intro v m2 r;have s1:v.size=m.size+1:=by simp[v]
 have s2:m2.size=m.size+2:=by simp[m2,s1]
 have s3:r.size=m.size+3:=by simp[r,s2]
 have t:J m r:=(((J.az m).aJ _).aJ _).aJ _;clear_value r;have o:∀e∈[m2.size,v.size,m.size],e<r.size:=bF;refine(Ft (f.ext t) (g.ext t) b).aG (J.az _) o λb4 m4 L P _=>⟨b4,rfl,λB=>Cy t P V (by unfold nD;rw[ae λa=>nb L B a.1]) _,λB=>?_⟩;have q:=yb L B;refine(aX _ _ _ _).aG P o λb5 m5 M ag k=>⟨b5,rfl,λC=>Cy t k V (by unfold nD;rw[ae λa=>nb M C a.2]) _,λC=>?_⟩;have hm:=yb M C;obtain⟨n,rfl⟩:∃n:Nat,x=n:=⟨x.toNat,V⟩;have hr:nD c s (n:Int)=⟨aB c n s,true⟩:=by unfold nD;rw[an ⟨q,hm⟩];simp
 rw[hr];have u:=t.trans k;have z5:=u.size;have ah:=k.size;have E:=Q5 b h;refine(qe (Bs.ze m5) (λ_=>dx _) (g.ext u) (q.iK E V)).mono ?_;rintro _ F ⟨ac,o6,K,I,rfl,W,R⟩;have y:=R.uc;have z6:=y.size;refine⟨y.dp λe l=>k.lt (o e l),_,_,_,_,o6,K,I,rfl,aE (y.same _ V) 0,aE (y.same _ V) 1,?_⟩;intro w;have kb:cz w F.size bL (SB d p s o6 K I):=cz.push F _ _;have z:=W.cO (m2:=w) (J.push F _) (ad _) kb;have Q:yN _ w [m2.size,v.size,m.size]:=λe l=>⟨z.cr.lt (k.lt (o e l)),z.jE e (k.lt (o e l))⟩;clear_value w;refine(JR z (f.ext u) q E n V V).mono ?_;rintro _ m8 ⟨⟨nn,rfl⟩,af,o8,Z,Y,a,t8⟩;have aa:=tY n q;have N:=aa.iK (tZ n q E V) V;generalize aB c n s=S at*;refine⟨t8.dJ Q,nn,rfl,_,a.box.cg 2,_,a.box.cg 3,_,a.box.cg 4,_,a.box.cg 5,o8,a.box.cg 6,Z,a.box.cg 7,Y,a.box.cg 8,(qe (Bs.ze m8) (λ_=>dx _) (a.zd N) N).mono ?_⟩;rintro _ m9 ⟨ab,G,D,A,rfl,X,T⟩;have H:=a.cr;have z8:=H.size;refine⟨T.uc.dp λe l=>H.lt (k.lt (o e l)),_,_,_,_,G,D,A,rfl,?_⟩;have U:=X.box (u.trans H) (nb:=m2.size) V V 0 [.i S.cB,.i S.value,.i S.bu,.i S.dT,.s G,.s D,.s A];exact⟨ab,G,D,A,rfl,U⟩
end
end
section
section
variable{m:E}{s t:O}
def Gw{x y:bN}{q r:O}(h:ap m q x.aF)(k:ap m r y.aF):dt cq 73 [.agg #[vi x.aP,vi x.km,O.v q],.agg #[vi y.aP,vi y.km,O.v r]] m (x=y):=by
 apply Av;simp -zeta only[aD,aC];intro i d;let⟨a,g⟩:=dE (a:=i) (c:=d) rfl rfl;clear_value d;refine⟨λb=>⟨λc=>?_,λc=>bV (λh=>by simp[h]at c) a⟩,λb=>bV (λh=>by simp[h]at b) a⟩;refine(kT (h.ext a) (k.ext a)).aG (J.az _) g λe l f j _=>⟨e,rfl,eV ?_ (a.trans j)⟩;rw[f];cases x;cases y;simp at b c;simp[b,c]
def Gx{l r:List bN}(f:cW m s l)(j:cW m t r):dt cq 37 [O.v s,O.v t] m (l=r):=by
 apply Aw;have y:=f.len;have D:=j.len;refine⟨λh=>bV (λe=>?_) (J.az _),λh=>?_⟩
 .subst e;simp at h;omega
 have C:l.length=r.length:=by simp at h;omega
 refine dV (n:=l.length) (y▸f.gX) (λk a=>J m a/\l.take k=r.take k) ⟨J.az _,aL⟩ ?_;rintro k E I μ B ⟨b,d⟩ A
 refine dit (λx=>?_) λx=>?_
 .let⟨K,g⟩:=cG l k;let⟨L,c⟩:=cG r k;let⟨G,a,w,g1,g2⟩:=(cW.ext b f).aH g;let⟨H,z,q,u,v⟩:=(cW.ext b j).aH c;refine⟨V,V,_,w,_,g1,_,g2,V,V,_,q,_,u,_,v,(Gw a z).mono ?_⟩;rintro _ F ⟨p,rfl,i,o⟩;refine⟨p,rfl,λa=>bV (λe=>nb i a ?_) (b.trans o),λa=>A V _ ⟨b.trans o,?_⟩⟩
  .subst e;rw[g]at c;simpa using c
  .rw[aU g,aU c,d,yb i a]
 .rw[bY V,bY V]at d;exact iS d b
def Ev{x y:aY}{r s t u v w:O}(C:ap m r (x.ak))(D:ap m s (x.aR))(E:ap m t (x.ba))(F:ap m u (y.ak))(G:ap m v (y.aR))(H:ap m w (y.ba)):
 dt cq 17 [.agg #[vi x.fI,vi x.pc,vi x.dst,O.v r,O.v s,O.v t],.agg #[vi y.fI,vi y.pc,vi y.dst,O.v u,O.v v,O.v w]] m (x=y):=by
 apply y9
 simp -zeta only[aD,aC]
 intro I q
 let⟨a,i⟩:=dE (a:=I) (c:=q) rfl rfl
 clear_value q
 refine⟨λc=>⟨λd=>⟨λe=>?_,λe=>bV (λh=>by simp[h]at e) a⟩,λd=>bV (λh=>by simp[h]at d) a⟩,λc=>bV (λh=>by simp[h]at c) a⟩
 refine(kT (C.ext a) (F.ext a)).aG (J.az _) i λz N o f L=>⟨z,rfl,λk=>?_,λk=>bV (λh=>fb o k (by rw[h])) (a.trans f)⟩
 have b:=a.trans f
 refine(kT (D.ext b) (G.ext b)).aG f i λA P p j M=>⟨A,rfl,λl=>?_,λl=>bV (λh=>fb p l (by rw[h])) (b.trans j)⟩
 have g:=b.trans j
 refine(kT (E.ext g) (H.ext g)).aG (f.trans j) i λB Q hd K _=>⟨B,rfl,eV ?_ (g.trans K)⟩
 rw[hd];have h:=o.1 k;have n:=p.1 l;cases x;cases y;simp at c d e h n;simp[c,d,e,h,n]
def CJ{l r:List aY}(f:jB m s l)(j:jB m t r):dt cq 38 [O.v s,O.v t] m (l=r):=by
 apply xG;have H:=f.len;have R:=j.len;refine⟨λh=>bV (λe=>?_) (J.az _),λh=>?_⟩
 .subst e;simp at h;omega
 have Q:l.length=r.length:=by simp at h;omega
 refine dV (n:=l.length) (H▸f.gX) (λk a=>J m a/\l.take k=r.take k) ⟨J.az _,aL⟩ ?_;rintro k S N μ P ⟨a,d⟩ M
 refine dit (λD=>?_) λD=>?_
 .let⟨aa,g⟩:=cG l k;let⟨ab,b⟩:=cG r k;let⟨U,W,X,E,F,G,z,g1,g2,A,B,C⟩:=(jB.ext a f).aH g;let⟨Y,Z,r5,I,K,L,q,u,v,w,x,y⟩:=(jB.ext a j).aH b;refine⟨V,V,_,z,_,g1,_,g2,_,A,_,B,_,C,V,V,_,q,_,u,_,v,_,w,_,x,_,y,(Ev E F G I K L).mono ?_⟩;rintro _ T ⟨p,rfl,i,o⟩;refine⟨p,rfl,λc=>bV (λe=>nb i c ?_) (a.trans o),λc=>M V _ ⟨a.trans o,?_⟩⟩
  .subst e;rw[g]at b;simpa using b
  .rw[aU g,aU b,d,yb i c]
 .rw[bY V,bY V]at d;exact iS d a
def lU{x y:St}{A h s B u t:O}(k:gD m A h s x)(l:gD m B u t y):dt cq 15 [KB x A h s,KB y B u t] m (x=y):=by
 apply zc;simp -zeta only[aD,aC];intro F z;let⟨a,j⟩:=dE (a:=F) (c:=z) rfl rfl;clear_value z;refine⟨λc=>⟨λd=>⟨λe=>⟨λf=>?_,λf=>bV (λh=>by simp[h]at f) a⟩,λe=>bV (λh=>by simp[h]at e) a⟩,λd=>bV (λh=>by simp[h]at d) a⟩,λc=>bV (λh=>by simp[h]at c) a⟩;refine(kT (k.aS.ext a) (l.aS.ext a)).aG (J.az _) j λC K v g H=>⟨C,rfl,λo=>?_,λo=>bV (λh=>fb v o (by rw[h])) (a.trans g)⟩;have b:=a.trans g;refine(Gx (cW.ext b k.heap) (cW.ext b l.heap)).aG g j λD L w n I=>⟨D,rfl,λp=>?_,λp=>bV (λh=>fb w p (by rw[h])) (b.trans n)⟩;have i:=b.trans n;refine(CJ (jB.ext i k.ao) (jB.ext i l.ao)).aG (g.trans n) j λE M hd G _=>⟨E,rfl,eV ?_ (i.trans G)⟩;rw[hd];have q:=v.1 o;have r:=w.1 p;cases x;cases y;simp at c d e f q r;simp[c,d,e,f,q,r]
end
end
end Go.Proofs.YtkoifinbblcbiaaGreat
