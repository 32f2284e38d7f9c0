/- Part of a proof. -/
import Derived.Test.YtkoifinbblcbiaaGreatSF02
import Derived.Test.YtkoifinbblcbiaaGreatSF03
import Derived.Test.YtkoifinbblcbiaaGreatSF04
set_option linter.all false
set_option maxHeartbeats 8000000
set_option maxRecDepth 100000
namespace Go.Proofs.YtkoifinbblcbiaaGreat
open Go.Vc
section
variable{m:E}{s:O}{l:List Int}{h:List bM}{w:Int}{a:Nat}
def eN(c:ap m s l)(n:l.length<=1000000000):ov 56 [O.v s] m l:=by
 apply tx;have b:=c.len;refine⟨λh=>?_,λh=>?_⟩
 .cases s with
  |nil=>simp at b;have:l=[]:=List.length_eq_zero_iff.1 b.symm;subst this;exact⟨.nil,rfl,gW.nil _ _ _ _,J.az _⟩
  |mk a o e d=>simp at h
  |zC a o d=>simp at h
 .intro d;have a:J m d:=(J.az m).aK _;have f:gW m d aA 1 (.mk m.size 0 0 0) []:=gW.new (J.az m) aA 1 [] 0 aL;refine gW.append (zs:=[.i 0]) (d:=l.map Ce.i) f a (by simp[b]) (c.ext a).H9 bE λr o a e g i j k=>⟨r,rfl,by simpa using a,e⟩
def sa(g:ap m s l)(b:Int):aN cp 110 [O.v s,vi b] m λv i=>∃r:Int,v=vi r/\J m i/\((r= -1/\b∉l)\/(b∈l/\r=tf l b)):=by
 apply tA;have j:=g.len;refine dU (n:=l.length) (j▸g.gT) (λk i=>J m i/\b∉l.take k) ⟨J.az _,aL⟩ ?_;rintro k u I μ t ⟨f,e⟩ p
 refine dit (λh=>?_) λh=>?_
 .let⟨x,d⟩:=cG l k;refine⟨V,V,x,by simpa using f.af (g.aF d),λc=>?_,λc=>p V _ ⟨f,?_⟩⟩
  .simp at c;subst c;refine⟨_,rfl,f,Or.inr ⟨aq d,?_⟩⟩;have:tf l b=k:=by
    unfold tf;rw[List.findIdx_eq (av d)];refine⟨by have:=(List.getElem?_eq_some_iff.1 d).2;simp[this],λo q=>?_⟩;simp;intro a;apply e;rw[<-a];exact List.mem_take_iff_getElem.2 ⟨o,V,rfl⟩
   rw[this]
  .rw[aU d];simp at c;intro a;rcases List.mem_append.1 a with a|a
   .exact e a
   .simp at a;exact c a
 .rw[bY V]at e;exact⟨_,rfl,f,Or.inl ⟨rfl,e⟩⟩
def lV(c:ap m s l)(n:Int):dt cp 169 [O.v s,vi n] m (n∈l):=by
 apply ru;refine(sa c n).mono ?_;rintro _ f ⟨r,rfl,d,h⟩;refine⟨_,rfl,eU ?_ d⟩;simp only[om,ar];rcases h with⟨rfl,h⟩|⟨b,e⟩
 .exact⟨λa=>V,λa=>absurd a h⟩
 .exact⟨λ_=>b,λ_=>V⟩
def Cl{t:O}{r:List Int}(d:ap m s l)(i:ap m t r):dt cp 172 [O.v s,O.v t] m (l=r):=by
 apply tz;have j:=d.len;have q:=i.len;refine⟨λh=>bW (λe=>by subst e;simp at h;omega) (J.az _),λh=>?_⟩;simp at h;refine dU (n:=l.length) (j▸d.gT) (λk a=>J m a/\l.take k=r.take k) ⟨J.az _,aL⟩ ?_;rintro k u I μ p ⟨b,g⟩ o
 refine⟨λh=>?_,λh=>iO (by simp at h;rwa[bY V,bY V]at g) b⟩;simp only[ar]at h;let⟨x,f⟩:=cG l k;let⟨y,c⟩:=cG r k;refine⟨V,V,x,by simpa using b.af (d.aF f),V,V,y,by simpa using b.af (i.aF c),λa=>bW (λe=>?_) b,λa=>o V _ ⟨b,?_⟩⟩
 .subst e;rw[f]at c;simp at c;simp at a;exact a c
 .rw[aU f,aU c,g];simp at a;rw[a]
def ij{a:O}(i:cW m a h)(u:w<=9223372036854775807):
 aN cp 153 [O.v a,vi w] m λv p=>∃(j:Int)(e:Bool),v=.tuple #[vi j,vb e]/\(e=true<->fY h w)/\(e=true->j=ix w)/\J m p:=by
 apply FR
 have k:=i.len
 have t:=i.gT
 refine⟨λc=>?_,λc=>?_⟩
 .simp at c
  have l:cT (w -1000)=w -1000:=aQ V V
  have o:(ix w:Int)=w -1000:=by unfold ix;omega
  rw[l]
  refine⟨λg=>?_,λg=>?_⟩
  .simp at g
   let⟨f,b⟩:=cG h ((w -1000).toNat)
   obtain⟨r,s,n,_⟩:=i.aF b
   refine⟨V,V,f.aP,n,_,_,rfl,?_,λ_=>o.symm,J.az _⟩
   simp only[kG,ar]
   refine⟨λa=>⟨c,f,b,a⟩,λ⟨_,q,d,a⟩=>?_⟩
   unfold ix at d
   rw[b]at d;simp at d;subst d;exact a
  .simp at g
   refine⟨_,_,rfl,⟨sx,λ⟨_,f,b,_⟩=>?_⟩,sx,J.az _⟩
   have:=av b
   omega
 .simp at c
  exact⟨_,_,rfl,⟨sx,λk=>oh k.1⟩,sx,J.az _⟩
def KW{b:O}(f:af m a 8=some (O.v b))(g:cW m b h)(i:w<=9223372036854775807):dt cp 97 [vp a 0,vi w] m (fY h w):=by
 apply tY (a,0);refine⟨b,f,(ij g i).mono ?_⟩;rintro _ k ⟨c,d,rfl,e,_,j⟩;exact⟨c,d,rfl,eU e j⟩
def DX(e:ap m s l)(q:l.length<=100000000):ov 173 [O.v s] m (kV l):=by
 apply yx;have p:=e.len;refine eA (n:=l.length) V (λk s a=>J m a/\gW m a aA 1 s ((kV (l.take k)).map Ce.i)) ⟨J.az _,by simpa[kV]using gW.nil m m aA 1⟩ ?_;rintro k s r I μ o ⟨b,a⟩ f
 refine dit (λh=>?_) λh=>?_
 .let⟨x,c⟩:=cG l k;refine⟨V,V,x,by simpa using b.af (e.aF c),λd=>?_,λg=>?_⟩
  .intro t;refine nN a b (by have:=nO (l.take k);simp at this;omega) λv u i j=>f V _ _ ⟨j,?_⟩
   rw[aU c,oU];have:kV [x]=[x]:=by simp at d;simp[kV,d]
   rw[this];exact i
  .refine f V _ _ ⟨b,?_⟩
   rw[aU c,oU];have:kV [x]=[]:=by simp at g;simp[kV];omega
   rw[this,dY];exact a
 .rw[bY V]at a;exact⟨s,rfl,a,b⟩
def xP(g:ap m s l):dt cp 99 [O.v s] m (RZ l):=by
 apply DR;refine(iV g 170 #[] #[] bh (λx=>x≠0) (λx _ i d=>?_)).then λb j f d=>⟨b,rfl,eU ?_ d⟩
 .simp only[eF,dY];apply zJ;exact eU aL (J.az _)
 .have e:(!b)=true<->¬(b=true):=aL;rw[e,f];unfold RZ;constructor
  .intro h n c;exact dQ λa=>h ⟨n,c,a⟩
  .rintro h ⟨n,c,a⟩;exact a (h n c)
def vI{am U:O}{b:cO}(ac:fw m am U b)(g1:af m a 1=some (O.v U)){x:Instr}(hc:zj b x){o j:O}(z:ap m o x.args)(aQ:x.args.length<=1000000)(ao:(x.op=16\/x.op=17)->1<=x.args.length):
 aN cp 95 [vp a 0,xv x o j] m λaE T=>∃s l,aE=.tuple #[O.v s,O.v l]/\ap T s (bT b x)/\ap T l (if x.op=9\/x.op=24 then fH b x 0 x.args else[])/\J m T/\(s=.nil\/s.D=o.D\/m.size<=s.D)/\(l=.nil\/m.size<=l.D):=by
 apply sE (a,0)
 simp -zeta only[aC,aB]
 intro c
 have v:J m c:=(J.az m).aK _
 have Q:∀p∈[m.size],p<c.size:=by simp[c]
 have s1:c.size=m.size+1:=by simp[c]
 have ab:=z.len
 have aI:=z.cap
 have N:ap c .nil []:=⟨rfl,aL,aL,aL⟩
 clear_value c
 refine⟨λe=>?_,λq=>⟨λe=>?_,λt=>⟨λe=>?_,λr=>?_⟩⟩⟩
 .simp only[bQ,aG]at e
  refine⟨o,.nil,rfl,?_,by rw[ae V];exact N,v,Or.inr (Or.inl rfl),Or.inl rfl⟩
  unfold bT;rw[an V];exact z.ext v
 .simp only[bQ,aG]at e
  simp only[br,aj]at q
  refine⟨V,V,V,_,.nil,rfl,?_,by rw[ae V];exact N,v,Or.inr (Or.inl ?_),Or.inl rfl⟩
  .unfold bT;rw[ae V,an e]
   exact eT.Ti (z.ext v) (ao e)
  .cases o with
   |nil=>simp at ab;omega
   |zC p d f=>simp at ab;omega
   |mk p d l f=>rfl
 .simp only[bQ,aG]at e
  simp only[br,aj]at q t
  let⟨h0,aR,K⟩:=hc e
  have aP:=ac.cF.len
  have aO:=av K
  have aD:∃(w:O->O->Int->E->Prop)(μ0:O->O->Int->E->Nat),w O.nil O.nil (0:Int) c/\(∀(ak:O)(cR:O)(i:Int)(d:E),w ak cR i d->∃k:Nat,i=k/\k<=x.args.length/\J c d/\gW c d aA 1 ak ((js b x k).map Ce.i)/\gW c d aA 1 cR ((fH b x 0 (x.args.take k)).map Ce.i)/\(ak≠.nil->cR≠.nil->ak.D≠cR.D))/\
   (∀(ak cR:O)(k:Nat)(d:E),k<=x.args.length->J c d->gW c d aA 1 ak ((js b x k).map Ce.i)->gW c d aA 1 cR ((fH b x 0 (x.args.take k)).map Ce.i)->(ak≠.nil->cR≠.nil->ak.D≠cR.D)->w ak cR k d)/\(∀o p i m,μ0 o p i m=((x.args.length:Int) -i).toNat):=
   ⟨λak cR i d=>∃k:Nat,i=k/\k<=x.args.length/\J c d/\gW c d aA 1 ak ((js b x k).map Ce.i)/\gW c d aA 1 cR ((fH b x 0 (x.args.take k)).map Ce.i)/\(ak≠.nil->cR≠.nil->ak.D≠cR.D),λ_ _ i _=>((x.args.length:Int) -i).toNat,
    ⟨0,rfl,dN _,J.az _,by simpa[js,iE]using gW.nil c c aA 1,by simpa[fH]using gW.nil c c aA 1,λh=>absurd rfl h⟩,λ_ _ _ _ h=>h,λak cR k d f g u y A=>⟨k,rfl,f,g,u,y,A⟩,λ_ _ _ _=>rfl⟩
  let⟨w,μ0,aq,ay,ag,hμ⟩:=aD
  refine⟨w,μ0,aq,?_⟩
  intro ak cR i d hI
  obtain⟨k,rfl,hk,aa,o1,o2,I⟩:=ay ak cR i d hI
  have L:=v.trans aa
  refine dit (λh=>?_) λh=>?_
  .let⟨y,R⟩:=cG x.args k
   obtain⟨a',l',c',aH,aw,aJ,k0,k1,_⟩:=(ac.ext L).cF.aF K
   have ai:(x.args.take k).length=k:=bE
   have al:js b x (k+1)=js b x k++iE b x k [y]:=by
    unfold js;rw[aU R,vo,ai,bU]
   have ah:fH b x 0 (x.args.take (k+1))=fH b x 0 (x.args.take k)++fH b x k [y]:=by
    rw[aU R,qQ,ai,bU]
   have aK:(js b x k).length<=k:=bH (tO _ _ _ _) bE
   have aM:(fH b x 0 (x.args.take k)).length<=k:=by
    have:∀(l:List Int)(j:Nat),(fH b x j l).length<=l.length:=by
     intro l;induction l with
     |nil=>intro j;exact ad _
     |cons aF l S=>intro j;have:=S (j+1);simp only[fH];split<;>simp<;>omega
    have:=this (x.args.take k) 0;omega
   have Z:cT ((k:Int)+1)=((k+1:Nat):Int):=kC (n:=x.args.length) V V
   refine⟨V,V,y,by simpa using L.af (z.aF R),U,L.af g1,h0,V,l',k1,(lV aw _).aH aa Q λp M hb u F=>⟨p,rfl,λau=>?_,λar=>?_⟩⟩
   .have A:=(K6 K k).2 (hb.1 au)
    intro g
    have s4:g.size=M.size+1:=by simp[g]
    have P:=o1.ext u
    have ax:cR.len=(fH b x 0 (x.args.take k)).length:=by have:=o2.len;simp at this;omega
    refine gW.append (zs:=[.i 0]) (d:=[.i y]) ((o2.ext u).ext (J.push _ _)) (F.aK _) rfl (cE.push M _ _).iB bE λs m5 W D q3 q4 X Y=>⟨J.tw (F.aK _) D Q,?_⟩
    rw[Z]
    have az:=u.size
    refine⟨ag _ _ _ _ V D ?_ ?_ ?_,by rw[hμ,hμ];omega⟩
    .rw[al]
     have:iE b x k [y]=[]:=by simp only[iE];rw[an A]
     rw[this,dY]
     rcases P.lt with e|e
     .subst e;exact⟨P.len,Or.inl rfl⟩
     .refine P.congr ?_
      rw[X _ (show _<g.size by omega) (λC=>?_),mM,ae V]
      by_cases B:ak=.nil
      .subst B
       rcases o2.D with r|r
       .exact absurd r C
       .simp;omega
      .exact I B C
    .rw[ah]
     have:fH b x k [y]=[y]:=by simp only[fH];rw[an A]
     rw[this];simpa using W
    .intro G H
     rcases Y with⟨_,e⟩|⟨q,t,_⟩|e
     .exact absurd e H
     .rw[t];exact I G q
     .rw[e]
      rcases P.lt with f|f
      .exact absurd f G
      .show ak.D≠g.size;omega
   .have A:¬ny b x k=true:=λhh=>fb hb ar ((K6 K k).1 hh)
    intro g
    have s4:g.size=M.size+1:=by simp[g]
    have P:=o2.ext u
    have ax:ak.len=(js b x k).length:=by have:=o1.len;simp at this;omega
    refine gW.append (zs:=[.i 0]) (d:=[.i y]) ((o1.ext u).ext (J.push _ _)) (F.aK _) rfl (cE.push M _ _).iB bE λs m5 W D q3 q4 X Y=>⟨J.tw (F.aK _) D Q,?_⟩
    rw[Z]
    have az:=u.size
    refine⟨ag _ _ _ _ V D ?_ ?_ ?_,by rw[hμ,hμ];omega⟩
    .rw[al]
     have:iE b x k [y]=[y]:=by simp only[iE];rw[ae A]
     rw[this];simpa using W
    .rw[ah]
     have:fH b x k [y]=[]:=by simp only[fH];rw[ae A]
     rw[this,dY]
     rcases P.lt with e|e
     .subst e;exact⟨P.len,Or.inl rfl⟩
     .refine P.congr ?_
      rw[X _ (show _<g.size by omega) (λC=>?_),mM,ae V]
      by_cases B:cR=.nil
      .subst B
       rcases o1.D with r|r
       .exact absurd r C
       .simp;omega
      .exactλe5=>I C B e5.symm
    .intro G H
     rcases Y with⟨_,e⟩|⟨q,t,_⟩|e
     .exact absurd e G
     .rw[t];exact I q H
     .rw[e]
      rcases P.lt with f|f
      .exact absurd f H
      .show g.size≠cR.D;omega
  .have g:x.args.take k=x.args:=bY V
   rw[g]at o2
   unfold js at o1
   rw[g]at o1
   have A:=tO b x x.args 0
   have u:∀(l:List Int)(j:Nat),(fH b x j l).length<=l.length:=by
    intro l;induction l with
    |nil=>intro j;exact ad _
    |cons aF l S=>intro j;have:=S (j+1);simp only[fH];split<;>simp<;>omega
   have y:=u x.args 0
   refine⟨ak,cR,rfl,?_,?_,L,?_,?_⟩
   .unfold bT;rw[ae V,ae V,an e];exact ap.gA o1 V
   .rw[an e];exact ap.gA o2 V
   .rcases o1.D with f|f
    .exact Or.inl f
    .exact Or.inr (Or.inr V)
   .rcases o2.D with f|f
    .exact Or.inl f
    .exact Or.inr V
 .simp only[br,aj]at q t r
  refine⟨.nil,.nil,rfl,?_,by rw[ae V];exact N,v,Or.inl rfl,Or.inl rfl⟩
  unfold bT;rw[ae V,ae V,ae V];exact N
end
section
variable{b:E}{i e:Nat}{d p g k h a j:O}{c:cO}{s:St}{f:aX}{x:Instr}
def HO:∀(l:List (Int×Int))(k v j:Int),uY (JF l k v) j=if j=k then v else uY l j
 |[],k,v,j=>by simp[JF,uY]
 |(a,c)::g,k,v,j=>by
  simp only[JF];split
  .rename_i h;subst h;simp only[uY];split<;>simp_all
  .rename_i h;simp only[uY];split
   .rename_i b;subst b;rw[ae (λe=>h e.symm)]
   .exact HO g k v j
def PK(l:List Int)(k:Nat)(a:Nat):eC (l.take k) a<=eC l a:=by
 have:eC l a=eC (l.take k) a+eC (l.drop k) a:=by rw[<-lT,dm]
 have:=iD (l.drop k) a;omega
def vO{m:O}{h:List bM}(Y:af b i 8=some (O.v m))(L:cW b m h){t:Nat->Int}(H:fN h t){c:bM}(W:c∈h){f:O}(X:ap b f c.aE)(aD:h.length<=2000000000):
 dt cp 171 [vp i 0,.agg #[vi c.aP,vi c.j9,O.v f]] b (c.aP=1\/lj h c.aE):=by
 apply sH (i,0)
 unfold nI
 simp -zeta only[aC,aB]
 intro e
 have z:J b e:=(J.az b).aK _
 have s1:e.size=b.size+1:=by simp[e]
 have Z:∀g∈[b.size],g<e.size:=by simp[s1]
 have az:=(H.cell c W).fl
 have aA:=X.len
 have aE:=L.len
 clear_value e
 refine⟨λu=>iO (Or.inl (by simpa using u)) z,λu=>?_⟩
 simp only[aj]at u
 intro B
 have ah:J e B:=(J.az e).aK _
 have ar:Dq B e.size []:=⟨#[],0,by simp[B],rfl⟩
 clear_value B
 refine dU (n:=c.aE.length) V (λk d=>J e d/\∃l,Dq d e.size l/\(∀a:Nat,uY l a=eC (c.aE.take k) a)/\∀w∈c.aE.take k,1000<=w->(aM h w).aP+eC (c.aE.take k) (ix w)<=999999) ⟨ah,[],ar,λa=>by simp[uY,eC],aL⟩ ?_
 rintro k m3 ay μ hk ⟨D,l,ab,N,x⟩ ag
 have A:=z.trans D
 refine dit (λh2=>?_) λh2=>?_
 .let⟨w,o⟩:=cG c.aE k
  have ac:1000<=w->fY h w:=λm=>H.field W (aq o) m
  have ax:w<=9223372036854775807:=by
   rcases dR (1000<=w)with q|q
   .have:=av (bS (ac q)).1;unfold ix at this;omega
   .omega
  refine⟨V,V,w,by simpa using A.af (X.aF o),m,A.af Y,(ij (cW.ext A L) ax).aH D Z ?_⟩
  rintro _ m4 ⟨a,g,rfl,v,ai,F⟩
  have p:=D.trans F
  have aN:=z.trans p
  have ao:e.size<m3.size:=by obtain⟨T,S,G,_⟩:=ab;exact(Array.getElem?_eq_some_iff.1 G).1
  have P:Dq m4 e.size l:=by obtain⟨T,S,G,r⟩:=ab;exact⟨T,S,by rw[F.same _ ao];exact G,r⟩
  have j:∀a:Nat,eC (c.aE.take (k+1)) a=eC (c.aE.take k) a+(if w=1000+(a:Int)then 1 else 0):=λa=>by
   rw[aU o,lT];simp[eC]
  refine⟨F,a,g,rfl,λU=>?_,λak=>?_⟩
  .have M:=v.1 U
   have I:=ai U
   subst I
   have ad:=il M.1
   have aJ:=iD (c.aE.take k) (ix w)
   have aI:=ku (c.aE.take k) (ix w)
   have aF:(c.aE.take k).length<=3:=bE
   have e1:cT (uY l (ix w)+1)=eC (c.aE.take (k+1)) (ix w):=by
    rw[N,j,an ad.symm];exact aQ V V
   refine⟨l,P,l,P,?_⟩
   rw[e1]
   intro m5 aa aw am
   have E:J e m5:=⟨by rw[aw];exact p.size,λg v=>by rw[am g V,p.same g v]⟩
   have R:=z.trans E
   let⟨K,aK⟩:=bS M
   obtain⟨f5,_,k0,_⟩:=(cW.ext R L).aF K
   have aG:=av K
   have aH:=(H.cell _ (aq K)).hi
   have al:uY (JF l (ix w) (eC (c.aE.take (k+1)) (ix w))) (ix w)=eC (c.aE.take (k+1)) (ix w):=by rw[HO,an rfl]
   have au:=j (ix w)
   rw[an ad.symm]at au
   have e2:cT ((aM h w).aP+eC (c.aE.take (k+1)) (ix w))=(aM h w).aP+eC (c.aE.take (k+1)) (ix w):=aQ V V
   refine⟨J.tw p E Z,m,R.af Y,V,V,_,by simpa using k0,_,aa,trivial,trivial,?_⟩
   rw[al,e2]
   refine⟨λr=>bW (λs=>?_) R,λr=>ag V _ ⟨E,_,aa,λa=>?_,λC d y=>?_⟩⟩
   .rcases s with s|s
    .exact u s
    .have:=s w (aq o) M.1
     have:=PK c.aE (k+1) (ix w)
     simp at r;omega
   .rw[HO]
    by_cases I:(a:Int)=ix w
    .have:a=ix w:=V
     subst this;rw[an rfl]
    .rw[ae I,N,j,ae V];omega
   .by_cases Q:C=w
    .subst Q;simp at r;omega
    .rw[j,ae (λt=>Q (by rw[il y]at t;exact t.symm))]
     rw[aU o]at d
     rcases List.mem_append.1 d with d|d
     .have:=x C d y;omega
     .simp at d;exact absurd d Q
  .have s:¬fY h w:=fb v ak
   have E:w<1000:=by
    rcases dR (1000<=w)with q|q
    .exact absurd (ac q) s
    .omega
   refine ag V _ ⟨p,l,P,λa=>by rw[N,j,ae V];omega,λC d y=>?_⟩
   rw[j,ae V]
   rw[aU o]at d
   rcases List.mem_append.1 d with d|d
   .have:=x C d y;omega
   .simp at d;omega
 .rw[bY V]at x
  exact iO (Or.inr x) A
structure FP(b:E)(fb e:Nat)(f:aX)(g k h:O):Prop where
 g3:af b fb (e+3)=some (O.v g)
 g4:af b fb (e+4)=some (O.v k)
 g5:af b fb (e+5)=some (O.v h)
 ak:ap b g f.ak
 aR:ap b k f.aR
 ba:ap b h f.ba
def FP.ext{b c:E}{fb e:Nat}{f:aX}{g k h:O}(F:FP b fb e f g k h)(a:J b c):FP c fb e f g k h:=⟨a.af F.g3,a.af F.g4,a.af F.g5,F.ak.ext a,F.aR.ext a,F.ba.ext a⟩
def HJ{fb:Nat}{aT K fr:O}(l:RV b i 3 d p aT K fr c s)(ai:af b i 2=some (vi (cr c))){fs:List aX}(C:zh c s fs f x)(M:FP b fb e f g k h)(v:ap b a x.args)(aI:x.op=11)(aj:s.heap.length<=2000000000):
 dt cp 100 [vp i 0,vp fb e,xv x a j] b (vz c s.heap (aF f.ak (aF x.args 0))):=by
 apply sG (i,0) (fb,e)
 simp -zeta only[aC,aB]
 intro u
 have r:J b u:=(J.az b).aK _
 have s1:u.size=b.size+1:=by simp[u]
 clear_value u
 have hl:∀B∈[b.size],B<u.size:=by simp[s1]
 have au:=v.len
 have aL:=M.ak.len
 have h2:=C.lx.2.2.1 V
 have q:0<=aF x.args 0/\aF x.args 0<f.ak.length:=C.arg _ (fx V V)
 have an:=C.F.pK q.1 q.2 C.Mx
 have N:=M.ext r
 have S:=C.ok.heap
 have X:=C.ok.fy
 refine⟨K,r.af l.qZ,g,N.g3,V,V,_,(v.ext r).pA V V,q.1,V,_,N.ak.pA q.1 q.2,?_⟩
 generalize aF f.ak (aF x.args 0)=w at*
 refine(ij (cW.ext r l.heap) an.2).aH (J.az _) hl ?_
 rintro _ L ⟨aa,B,rfl,T,ag,E⟩
 have z:=r.trans E
 refine⟨E,aa,B,rfl,λah=>bW (λm=>nb T ah m.1) z,λU=>?_⟩
 have Y:=yb T U
 have v:=ag (by simpa using U)
 subst v
 let⟨y,al⟩:=bS Y
 have R:=S.cell _ (aq y)
 have aO:=(R.oP al).2
 have aH:=av y
 have aE:=l.heap.len
 let⟨D,W,k0,k1,k2⟩:=(cW.ext z l.heap).aF y
 refine⟨K,z.af l.qZ,V,V,_,by simpa using k0,_,by simpa using k1,D,by simpa using k2,?_⟩
 intro m3 o
 have P:J L o:=((J.az L).aK _).ah (ad _) _ _
 have s4:o.size=L.size+1:=by simp[o,m3,aw]
 clear_value o
 have n:=z.trans P
 have ar:(eS c.bo).length<=12:=by
  have:=qY X.nP.types c.bo.length;rw[mR _ _ (ad _)]at this;exact this
 have az:(cr c)=((eS c.bo).length:Int):=rfl
 have aK:=l.fy.cF.len
 have aJ:=X.nP.len
 have e1:cT ((aM s.heap w).j9 -cr c)=(aM s.heap w).j9 -cr c:=aQ V V
 refine⟨cr c,n.af ai,?_⟩
 rw[e1]
 refine⟨λF=>bW (λm=>by have:=m.2.1;simp at F;omega) n,λF=>⟨p,n.af l.cF,λG=>bW (λm=>by have:=m.2.2.1;simp at G;omega) n,λG=>?_⟩⟩
 simp at F G
 let⟨ao,Z⟩:=cG c.cF (((aM s.heap w).j9 -cr c).toNat)
 have am:dO c ((aM s.heap w).j9 -cr c)=ao:=by simp[dO,Z]
 let⟨a',l',c',ac,ak,ay,j0,j1,j2,j3,j4⟩:=(l.fy.ext n).cF.aF Z
 have ax:=ac.len
 have aG:=ak.len
 have aD:=W.len
 have aA:=R.fl
 refine⟨p,n.af l.cF,V,V,a',j0,l',j1,_,j2,_,j3,c',j4,?_⟩
 intro m5 A
 have Q:J o A:=((J.az o).aK _).ah (ad _) _ _
 have s6:A.size=o.size+1:=by simp[A,m5,aw]
 clear_value A
 have t:=n.trans Q
 have e3:cT ((D.len:Int)+1)=(D.len:Int)+1:=aQ V V
 rw[e3]
 unfold vz
 rw[am]
 have aN:=E.size
 refine⟨λH=>⟨λI=>?_,λI=>bW (λm=>by have:=m.2.2.2.1;simp at I;omega) t⟩,λH=>bW (λm=>by have:=m.2.2.2.2.1;simp at H;omega) t⟩
 simp at H I
 refine(vO (t.af l.qZ) (cW.ext t l.heap) S (aq y) (W.ext (P.trans Q)) aj).aH (J.az _) bE λb2 m7 ae ab _=>⟨b2,rfl,eU (ae.trans ?_) (t.trans ab)⟩
 exact⟨λhs=>⟨Y,V,V,V,V,hs⟩,λm=>m.2.2.2.2.2⟩
def DW{fb:Nat}{aT hp fr:O}(A:RV b i 3 d p aT hp fr c s){fs:List aX}(C:zh c s fs f x)(H:FP b fb e f g k h)(L:ap b a x.args)(aL:x.op=14\/x.op=19\/x.op=21\/x.op=16\/x.op=17)(aJ:s.heap.length<=2000000000):
 dt cp 101 [vp i 0,vp fb e,xv x a j] b ((x.op=14->fY s.heap (aF f.ak (aF x.args 0))/\(aM s.heap (aF f.ak (aF x.args 0))).aP<999999)/\(x.op=19->fY s.heap (aF f.ak (aF x.args 0))/\x.bP<(aM s.heap (aF f.ak (aF x.args 0))).aE.length)/\
  (x.op=21->fY s.heap (aF f.ak (aF x.args 0))/\(aM s.heap (aF f.ak (aF x.args 0))).j9∈cz c.bo x.bP)/\((x.op=16\/x.op=17)->Fk s.heap f x)):=by
 apply rc (i,0) (fb,e)
 simp -zeta only[aC,aB]
 intro Q
 have N:J b Q:=(J.az b).aK _
 have s1:Q.size=b.size+1:=by simp[Q]
 clear_value Q
 have hl:∀B∈[b.size],B<Q.size:=by simp[s1]
 have a0:=L.len
 have aZ:=L.cap
 have a9:=H.ak.len
 have a3:=H.ba.len
 have h4:=C.lx
 have a6:=C.FY
 have aK:1<=x.args.length:=V
 have aV:=h4.1
 clear h4
 have D:0<=aF x.args 0/\aF x.args 0<f.ak.length:=C.arg _ (fx V V)
 have aO:=C.F.pK D.1 D.2 C.Mx
 have F1:=H.ext N
 have hI:=C.ok.heap
 have aE:Fk s.heap f x<->(fY s.heap (aF f.ak (aF x.args 0))/\kV (aM s.heap (aF f.ak (aF x.args 0))).aE=cL f (x.args.drop 1)/\((aM s.heap (aF f.ak (aF x.args 0))).aP=1\/lj s.heap (aM s.heap (aF f.ak (aF x.args 0))).aE)/\(x.op=17->aF f.ba (aF x.args 0)=0)):=SD
 rw[aE]
 refine⟨hp,N.af A.qZ,g,F1.g3,V,V,_,(L.ext N).pA V V,D.1,V,_,F1.ak.pA D.1 D.2,?_⟩
 generalize aF f.ak (aF x.args 0)=w at*
 refine(ij (cW.ext N A.heap) aO.2).aH (J.az _) hl ?_
 rintro _ E ⟨ar,B,rfl,T,aH,Z⟩
 have X:=N.trans Z
 refine⟨Z,ar,B,rfl,λaI=>bW (λu=>?_) X,λaj=>?_⟩
 .have q:=nb T aI
  rcases aL with l|l|l|l
  .exact q (u.1 l).1
  .exact q (u.2.1 l).1
  .exact q (u.2.2.1 l).1
  .exact q (u.2.2.2 l).1
 have G:=yb T aj
 have aG:=aH (by simpa using aj)
 subst aG
 let⟨W,a8⟩:=bS G
 have ai:=hI.cell _ (aq W)
 have a7:=av W
 have a4:=A.heap.len
 let⟨Y,ae,k0,k1,k2⟩:=(cW.ext X A.heap).aF W
 refine⟨hp,X.af A.qZ,V,V,_,by simpa using k0,_,by simpa using k1,Y,by simpa using k2,?_⟩
 intro m3 z
 have aa:J E z:=((J.az E).aK _).ah (ad _) _ _
 have s4:z.size=E.size+1:=by simp[z,m3,aw]
 have kB:af z E.size 1=some (vi (aM s.heap w).j9):=(cE.ah (m:=m3) (o:=0) (r:=[.i (aM s.heap w).aP,.i (aM s.heap w).j9,.s Y]) (cE.push E _ _)).cg 1
 clear_value z
 have y:=X.trans aa
 have a_:=Z.size
 have F:∀B∈[E.size,b.size],B<z.size:=bE
 have a2:=ae.len
 refine⟨λl=>?_,λau=>⟨λl=>?_,λax=>⟨λl=>?_,λay=>?_⟩⟩⟩
 .simp at l
  refine eU ?_ y
  simp
  exact⟨λt=>⟨λ_=>⟨G,t⟩,λq=>V,λq=>V,λq=>V⟩,λt=>(t.1 l).2⟩
 .simp at l
  refine eU ?_ y
  simp
  exact⟨λt=>⟨λq=>V,λ_=>⟨G,V⟩,λq=>V,λq=>V⟩,λt=>oh ((t.2.1 l).2)⟩
 .simp at l
  refine⟨d,y.af A.bo,(tg (A.fy.ext y).bo C.ok.fy.nP.types _).aH (J.az _) F ?_⟩
  rintro _ m5 ⟨I,rfl,K,v⟩
  refine⟨v,I,rfl,v.da kB,(lV K _).aH v F λb2 m6 U ac ab=>⟨b2,rfl,eU (U.trans ?_) (y.trans ab)⟩⟩
  exact⟨λt=>⟨λq=>V,λq=>V,λ_=>⟨G,t⟩,λq=>V⟩,λt=>(t.2.2.1 l).2⟩
 .simp at au ax ay
  have R:x.op=16\/x.op=17:=V
  have e1:(Int.toNat (1:Int))=1:=rfl
  have e2:(Int.toNat (a.len:Int))=a.len:=V
  rw[e1,e2]
  have al:=UJ (L.ext y) aK
  have a5:=al.len
  have a1:(x.args.drop 1).length<=4:=bE
  refine⟨V,V,V,?_⟩
  refine eA (n:=(x.args.drop 1).length) V (λah s' I=>J z I/\gW z I aA 1 s' ((cL f ((x.args.drop 1).take ah)).map Ce.i)) ⟨J.az _,by simpa[cL]using gW.nil z z aA 1⟩ ?_
  rintro ah s' m5 aS μ hk ⟨v,o5⟩ aQ
  have aP:=y.trans v
  refine dit (λt=>?_) λt=>?_
  .let⟨S,I⟩:=cG (x.args.drop 1) ah
   have K:=C.arg S (wG (aq I))
   have M:=H.ext aP
   refine⟨V,V,S,by simpa using(al.ext v).aF I,g,M.g3,K.1,V,_,M.ak.pA K.1 K.2,?_⟩
   intro m6
   refine nN o5 v (by simp[cL];omega) λag m7 q1 P=>⟨J.tw (v.aK _) P F,aQ V _ _ ⟨P,?_⟩⟩
   rw[aU I]
   simpa[cL]using q1
  .rw[bY V]at o5
   have i5:ap m5 s' (cL f (x.args.drop 1)):=ap.gA o5 (by simp[cL];omega)
   refine(DX (ae.ext (aa.trans v)) (oh ai.fl)).aH (O8 (nO (aM s.heap w).aE) ai.fl) (λB T=>v.lt (F B T)) λps m6 o6 i6 ac=>⟨ps,rfl,?_⟩
   have ab:=v.trans ac
   refine(Cl i6 (i5.ext ac)).aH ab F λb2 m7 U aW S=>⟨b2,rfl,λh8=>bW (λu=>nb U h8 (u.2.2.2 R).2.1) (y.trans S),λh8=>?_⟩
   have ak:=yb U h8
   have P:=y.trans S
   have ao:aN cp 171 [vp i 0,.agg #[vi (aM s.heap w).aP,vi (aM s.heap w).j9,O.v Y]] m7 λaR am=>eG [E.size,b.size] m7 am/\∃an:Bool,aR=vb an/\((an=true<->((aM s.heap w).aP=1\/lj s.heap (aM s.heap w).aE))/\J b am):=
    (vO (P.af A.qZ) (cW.ext P A.heap) hI (aq W) (ae.ext (aa.trans S)) aJ).aH S F λb3 m8 M aY aD=>⟨b3,rfl,M,y.trans aD⟩
   have F7:=H.ext P
   have az:aF x.args 0<f.ba.length:=V
   refine⟨λI=>⟨h,F7.g5,V,V,_,(L.ext P).pA V V,D.1,V,_,F7.ba.pA D.1 az,λK=>bW (λu=>?_) P,λK=>ao.mono ?_⟩,λI=>ao.mono ?_⟩
   .simp at I K;exact K ((u.2.2.2 R).2.2.2 I)
   .rintro _ m8 ⟨hs,b3,rfl,M,ag⟩
    refine⟨hs,b3,rfl,eU (M.trans ?_) ag⟩
    simp at K
    exact⟨λhf=>⟨λq=>V,λq=>V,λq=>V,λ_=>⟨G,ak,hf,λ_=>K⟩⟩,λu=>(u.2.2.2 R).2.2.1⟩
   .rintro _ m8 ⟨hs,b3,rfl,M,ag⟩
    refine⟨hs,b3,rfl,eU (M.trans ?_) ag⟩
    simp at I
    exact⟨λhf=>⟨λq=>V,λq=>V,λq=>V,λ_=>⟨G,ak,hf,λq=>absurd q I⟩⟩,λu=>(u.2.2.2 R).2.2.1⟩
end
section
variable{b:E}{c:Nat}{a:aX}{d e h:O}
def uO(ak:List Int):∀(b a aR:List Int),bC ak aR (b++a)=bC ak (bC ak aR b) a
 |[],a,aR=>rfl
 |y::b,a,aR=>by simp only[cZ,bC,uO ak b a]
def MD{f fb:Nat}(i:af b f 0=some (vp fb c))(F:FP b fb c a d e h){x:Int}(g:0<=x/\x<a.ak.length):dt cp 98 [vi x,vp f 0] b (1000<=aF a.ak x):=by
 apply uV (f,0);have j:=F.ak.len;exact⟨(fb,c),i,d,F.g3,g.1,V,_,F.ak.pA g.1 g.2,eU aL (J.az _)⟩
def PG{mb fb:Nat}{a4 bp aT u fr:O}{g:cO}{N:St}(R:RV b mb 3 a4 bp aT u fr g N)(bb:af b mb 2=some (vi (cr g))){fs:List aX}{x:Instr}(C:zh g N fs a x){au bm:O}(Q:FP b fb c a d e h)(Z:ap b au x.args)(a1:N.heap.length<=2000000000):
 dt cp 59 [vp mb 0,vp fb c,xv x au bm] b (ln g N a x (bC a.ak a.aR (bT g x))):=by
 apply wS (mb,0) (fb,c)
 simp -zeta only[aC,aB]
 intro m1 L
 have w:J b L:=((J.az b).aK _).aK _
 have s1:m1.size=b.size+1:=by simp[m1]
 have s2:L.size=b.size+2:=by simp[L,s1]
 have P:∀j∈[m1.size,b.size],j<L.size:=bE
 have kP:af L b.size 0=some (vp fb c):=((cE.push b [.p fb c] _).ext (J.push m1 _)).cg 0
 clear_value L
 have bu:=Z.len
 have bK:=Q.ak.len
 have bG:=Q.aR.len
 have bw:=Q.ba.len
 have bA:=C.FY
 have hd:=C.dst
 have bi:=C.Ze
 refine⟨e,w.af Q.g4,(eN (Q.aR.ext w) V).aH V P λB m3 oq iq aI=>⟨B,rfl,?_⟩⟩
 have ay:=iq.len
 have aN:=w.trans aI
 refine(vI (R.fy.ext aN) (aN.af R.cF) C.call (Z.ext aN) (oh C.lx.1) C.lx.2.2.2.1).aH aI P ?_
 rintro _ U ⟨rs,ls,rfl,aD,aO,aJ,a3,a2⟩
 have a8:=aI.trans aJ
 have bo:=oq.ext aJ
 refine⟨aJ,rs,ls,rfl,?_⟩
 have bM:=IW g x
 have bt:=C.lx.1
 have bL:=aD.len
 have a_:=C.Kj
 have bj:∀ac∈a.aR,0<=ac:=λac T=>(C.OG ac T).1
 have bI:L.size<=B.D:=by
  rcases oq.D with k|k
  .subst k;simp at ay;omega
  .exact k
 have bJ:B.D<m3.size:=by
  rcases oq.lt with k|k
  .subst k;simp at ay;omega
  .exact k
 have aK:=C.arg
 have bF:=w.size
 have kr:∀{v:E},(∀j,j<U.size->j≠B.D->v[j]? =U[j]?)->ap v rs (bT g x):=λhk=>iQ aD λG=>hk _ (iF aD G) λk=>by
  have ba:x.args≠[]:=λS=>by
   let⟨y,s⟩:=Uo _ G;have:=BY s;rw[S]at this;simp at this
  rcases a3 with W|W|W
  .subst W;have:=aD.len;simp at this;exact G (List.length_eq_zero_iff.1 this.symm)
  .rw[W]at k;have:=iF Z ba;omega
  .omega
 have kl:∀{v:E},(∀j,j<U.size->j≠B.D->v[j]? =U[j]?)->ap v ls (if x.op=9\/x.op=24 then fH g x 0 x.args else[]):=λhk=>iQ aO λG=>hk _ (iF aO G) λk=>by
  rcases a2 with W|W
  .subst W;have:=aO.len;simp at this;exact G (List.length_eq_zero_iff.1 this.symm)
  .omega
 refine dU (n:=(bT g x).length) V (λp v=>J L v/\(∀j,j<U.size->j≠B.D->v[j]? =U[j]?)/\gW L v aA 1 B ((bC a.ak a.aR ((bT g x).take p)).map Ce.i)/\∀ac∈bC a.ak a.aR ((bT g x).take p),0<=ac) ⟨a8,λ_ _ _=>rfl,bo,bj⟩ ?_
 rintro p m5 bq μ hk ⟨ad,al,aE,K⟩ aV
 have F5:=Q.ext (w.trans ad)
 have bc:=j7 a.ak ((bT g x).take p) a.aR
 have az:ap m5 B (bC a.ak a.aR ((bT g x).take p)):=ap.gA aE V
 refine dit (λh6=>?_) λh6=>?_
 .let⟨y,s⟩:=cG (bT g x) p
  have q:=a_ y (aq s)
  have D:bC a.ak a.aR ((bT g x).take (p+1))=if 1000<=aF a.ak y then gR (bC a.ak a.aR ((bT g x).take p)) y (aF (bC a.ak a.aR ((bT g x).take p)) y -1)else bC a.ak a.aR ((bT g x).take p):=by
   rw[aU s,uO];rfl
  have H:y<(bC a.ak a.aR ((bT g x).take p)).length:=V
  have aW:=K _ (fx q.1 H)
  have aY:aF (bC a.ak a.aR ((bT g x).take p)) y<=999999:=by
   let⟨q',M,ak⟩:=kY ((bT g x).take p) a.aR y.toNat _ (oB q.1 H);have:=(C.OG q' (aq M)).2;omega
  refine⟨V,V,y,by simpa using(kr al).aF s,d,F5.g3,q.1,V,_,F5.ak.pA q.1 q.2,λA=>?_,λA=>aV V _ ⟨ad,al,by rw[D,ae (by simpa using A)];exact aE,by rw[D,ae (by simpa using A)];exact K⟩⟩
  simp at A
  rw[an A]at D
  refine⟨q.1,V,_,az.pA q.1 H,q.1,V,?_⟩
  have e1:cT (aF (bC a.ak a.aR ((bT g x).take p)) y -1)=aF (bC a.ak a.aR ((bT g x).take p)) y -1:=aQ V V
  rw[e1]
  rcases aE.aF with aH|⟨X,am,tail,z1,z2,z3,z4,z5⟩
  .rw[aH]at ay;simp at ay;omega
  .have a5:B.off=0:=by rw[z1];rfl
   have aa:B.D=X:=by rw[z1];rfl
   have ah:B.off+y.toNat*1=y.toNat:=V
   rw[ah,aa]
   have ax:y.toNat<((bC a.ak a.aR ((bT g x).take p)).map Ce.i).length:=bE
   refine⟨z3.fK (by simp only[be];omega),?_⟩
   intro m6
   have F:J L m6:=ad.ah V _ _
   have ao:∀j,j<U.size->j≠B.D->m6[j]? =U[j]? :=λj t G=>by rw[bd _ _ _ _ V];exact al j t G
   have o6:gW L m6 aA 1 B ((bC a.ak a.aR ((bT g x).take (p+1))).map Ce.i):=by
    rw[D];refine⟨by rw[dZ,jS,<-dZ (f:=Ce.i)];exact aE.len,Or.inr ⟨X,am,tail,z1,z2,?_,?_,z5⟩⟩
    .have:=cE.ah (m:=m5) (o:=y.toNat) (r:=[.i (aF (bC a.ak a.aR ((bT g x).take p)) y -1)]) z3;have e6:jb ((bC a.ak a.aR ((bT g x).take p)).map Ce.i++tail) y.toNat [.i (aF (bC a.ak a.aR ((bT g x).take p)) y -1)]=(gR (bC a.ak a.aR ((bT g x).take p)) y (aF (bC a.ak a.aR ((bT g x).take p)) y -1)).map Ce.i++tail:=by
      simp only[jb,gR,tU];rw[Mk _ _ ax]
     rw[e6]at this;exact this
    .simp only[be,dZ,jS]at z4⊢;exact z4
   have a0:=j7 a.ak ((bT g x).take (p+1)) a.aR
   have aS:ap m6 B (bC a.ak a.aR ((bT g x).take (p+1))):=ap.gA o6 V
   have Y:aF (bC a.ak a.aR ((bT g x).take (p+1))) y=aF (bC a.ak a.aR ((bT g x).take p)) y -1:=by rw[D,Uw q.1 H y q.1,an rfl]
   have ag:=aS.pA (i:=y) q.1 V
   rw[Y,ah,aa]at ag
   refine⟨J.tw ad F P,q.1,V,_,ag,λh8=>bW (λz=>?_) (w.trans F),λh8=>aV V _ ⟨F,ao,o6,λac T=>?_⟩⟩
   .simp at h8
    have ab:bC a.ak a.aR (bT g x)=bC a.ak (bC a.ak a.aR ((bT g x).take (p+1))) ((bT g x).drop (p+1)):=by rw[<-uO,dm]
    have aw:y<(bC a.ak a.aR (bT g x)).length:=by rw[j7];omega
    have I:=oB (l:=bC a.ak a.aR (bT g x)) q.1 aw
    have aZ:=z.nn _ (aq I)
    rw[ab]at I
    let⟨q',M,ak⟩:=kY _ _ _ _ I
    have aP:=Hx M
    rw[Y]at aP
    rw[<-ab]at ak
    omega
   .rw[D]at T
    rcases pG T with T|T
    .simp at h8;omega
    .exact K ac T
 .have bk:(bT g x).take p=bT g x:=bY V
  rw[bk]at az K bc
  have aP:=kl al
  generalize bH:bC a.ak a.aR (bT g x)=aR at*
  have bf:=aP.len
  refine⟨λv=>J m5 v/\(lP x.op->aF aR x.dst<=0),?_,?_⟩
  .refine(rh _ _ ⟨V,V⟩).aH ad P λj m6 t ag F=>⟨j,rfl,λH=>⟨hd.1,V,_,(az.ext ag).pA hd.1 V,λA=>bW (λz=>?_) (w.trans F),λA=>⟨ag,λ_=>by simpa using A⟩⟩,λD=>⟨ag,λI=>absurd I (Go.Vc.fb t D)⟩⟩
   have:=z.dst (t.1 H);simp at A;omega
  .rintro m6 ⟨ag,aa⟩
   have bn:∀(ao:List Int)(jj:Nat)(y:Int),y∈fH g x jj ao->y∈ao:=by
    intro ao;induction ao with
    |nil=>intro jj y h;simp[fH]at h
    |cons D ao A=>
     intro jj y h;simp only[fH]at h;split at h
     .rcases List.mem_cons.1 h with rfl|h
      .exact bg
      .exact ai _ (A _ _ h)
     .exact ai _ (A _ _ h)
   generalize ax:(if x.op=9\/x.op=24 then fH g x 0 x.args else[])=LL at*
   have a9:∀y∈LL,0<=y/\y<a.ak.length:=λy s=>by
    rw[<-ax]at s;split at s
    .exact aK y (bn _ _ _ s)
    .simp at s
   refine dU (n:=LL.length) (bf▸aP.gT) (λp v=>J m5 v/\∀y∈LL.take p,1000<=aF a.ak y->fY N.heap (aF a.ak y)) ⟨ag,aL⟩ ?_
   rintro k2 m7 I2 μ2 bz ⟨ah,am⟩ aS
   have Y:=ad.trans ah
   have A:=w.trans Y
   have H:=Q.ext A
   refine dit (λh8=>?_) λh8=>?_
   .let⟨y,s⟩:=cG LL k2
    have q:=a9 y (aq s)
    refine⟨V,V,y,by simpa using(aP.ext ah).aF s,d,H.g3,q.1,V,_,H.ak.pA q.1 q.2,λF=>?_,λF=>aS V _ ⟨ah,bB s am λu=>by simp at F;omega⟩⟩
    simp at F
    refine(KW (A.af R.qZ) (cW.ext A R.heap) (C.F.pK q.1 q.2 C.Mx).2).aH Y P λj m8 t ak I=>⟨j,rfl,λD=>bW (λz=>?_) (w.trans I),λD=>aS V _ ⟨ah.trans ak,bB s am λ_=>yb t D⟩⟩
    have M:=aq s
    rw[<-ax]at M
    split at M
    .rename_i e9;exact nb t D (z.cR e9 y M F)
    .simp at M
   .rw[bY V]at am
    have ab:(x.op=9\/x.op=24)->Kq g N.heap a x:=λe9=>by rw[an e9]at ax;rw[<-ax]at am;exact am
    have bl:=az.ext ah
    have hV:=R.ext A
    have aW:1<=x.args.length->0<=aF x.args 0/\aF x.args 0<a.ak.length:=λX=>aK _ (fx V V)
    have ga:∀{v},J b v->1<=x.args.length->af v au.D (au.off+Int.toNat (0:Int)*1)=some (vi (aF x.args 0)):=λhx X=>(Z.ext hx).pA V V
    clear aV aS al kr kl bi a3 a2
    refine⟨λk=>?_,λe1=>?_⟩
    .simp only[bQ,aG]at k
     refine(iV (Z.ext A) 98 #[] #[vp b.size 0] bh (λy=>1000<=aF a.ak y) (λy s v aw=>?_)).aH Y (λj t=>P j (by simp at t;simp[t])) λj m8 t ak I=>⟨j,rfl,eU ?_ (w.trans I)⟩
     .simpa using MD (aw.af (Y.af kP)) (H.ext aw) (aK y s)
     .have aH:(!j)=true<->¬(j=true):=aL
      rw[aH,t]
      constructor
      .intro aY
       have u:∀y∈x.args,aF a.ak y<1000:=λy s=>by
        rcases dR (1000<=aF a.ak y)with X|X
        .exact absurd ⟨y,s,X⟩ aY
        .omega
       have M:x.op≠6/\x.op≠24/\x.op≠23/\x.op≠11/\x.op≠14/\x.op≠15/\x.op≠16/\x.op≠17/\x.op≠19/\x.op≠21:=by rcases k with k|k|k|k|k|k<;>rw[k]<;>decide
       exact⟨K,aa,λ_=>u,λq=>absurd q M.1,ab,λq=>q.elim (λh=>absurd h M.2.1) (λh=>absurd h M.2.2.1),λq=>absurd q M.2.2.1,λq=>absurd q M.2.2.2.1,λq=>absurd q M.2.2.2.2.1,λq=>absurd q M.2.2.2.2.2.1,λq=>q.elim (λh=>absurd h M.2.2.2.2.2.2.1) (λh=>absurd h M.2.2.2.2.2.2.2.1),λq=>absurd q M.2.2.2.2.2.2.2.2.1,λq=>absurd q M.2.2.2.2.2.2.2.2.2⟩
      .rintro z ⟨y,s,X⟩
       have:=z.nJ V y s;omega
    simp only[br,aj]at e1
    refine⟨λk=>?_,λe6=>?_⟩
    .simp only[aG]at k
     have bx:=C.lx.2.2.2.2.1 k
     have iI:Fl N.heap a x->ln g N a x aR:=λu=>by
      refine⟨K,aa,?_,?_,ab,?_,?_,?_,?_,?_,?_,?_,?_⟩<;>intro q<;>first|(exfalso;omega)|exact u
     refine⟨λF=>?_,λF=>iO (iI λG=>absurd (by simpa using F) G) A⟩
     simp at F
     have aZ:cT (x.bZ -1)=x.bZ -1:=aQ V V
     rw[aZ]
     have M:0<=x.bZ -1/\x.bZ -1<a.ba.length:=V
     refine⟨h,H.g5,V,V,_,H.ba.pA M.1 M.2,λD=>?_,λD=>iO (iI λ_ G=>absurd (by simpa using D) G) A⟩
     simp at D
     obtain⟨T,dd,aH,_⟩:=C.KZ _ (fx M.1 M.2) D
     have bD:=av aH
     have a6:ix (aF a.ba (x.bZ -1))=(aF a.ba (x.bZ -1) -1000).toNat:=rfl
     have a0:cT (aF a.ba (x.bZ -1) -1000)=aF a.ba (x.bZ -1) -1000:=aQ V V
     have bv:=R.heap.len
     let⟨f9,a5,k0,k1,a7⟩:=(cW.ext A R.heap).aF aH
     have bs:=a5.len
     have aY:aM N.heap (aF a.ba (x.bZ -1))=dd:=by simp[aM,aH]
     refine⟨u,hV.qZ,h,H.g5,V,V,_,H.ba.pA M.1 M.2,?_⟩
     rw[a0,<-a6]
     refine⟨V,V,f9,a7,eU ?_ A⟩
     simp only[aG]
     refine⟨λaw=>iI λ_ _=>by rw[aY];omega,λz=>?_⟩
     have:=z.jd k F D
     rw[aY]at this;omega
    simp only[aj]at e6
    refine⟨λk=>?_,λa6=>?_⟩
    .simp only[bQ,aG]at k
     refine(xP bl).aH Y P λj m8 t ak I=>⟨j,rfl,λF=>bW (λz=>nb t F (z.zero k).1) (w.trans I),λF=>?_⟩
     have F8:=Q.ext (w.trans I)
     refine⟨h,F8.g5,(xP F8.ba).aH I P λb2 m9 a0 bs aZ=>⟨b2,rfl,λD=>bW (λz=>nb a0 D (z.zero k).2) (w.trans aZ),λD=>?_⟩⟩
     have M:=w.trans aZ
     have F9:=Q.ext M
     have iI:(x.op=23->1<N.ao.length\/aF a.ak (aF x.args 0)<1000)->ln g N a x aR:=λu=>by
      refine⟨K,aa,?_,?_,ab,?_,?_,?_,?_,?_,?_,?_,?_⟩<;>intro q<;>first|exact u q|(exfalso;omega)|exact⟨(yb t F),(yb a0 D)⟩
     have bv:=R.ao.len
     refine⟨λaw=>iO (iI λq=>by simp at aw;omega) M,λaw=>⟨fr,M.af R.Ov,λaH=>iO (iI λ_=>Or.inl (by simp at aH;omega)) M,λaH=>?_⟩⟩
     simp at aw aH
     have a5:x.op=23:=V
     have X:=C.lx.2.1 V
     have S:=aW V
     refine⟨d,F9.g3,V,V,_,ga M V,S.1,V,_,F9.ak.pA S.1 S.2,eU ?_ M⟩
     simp
     refine⟨λa7=>iI λ_=>Or.inr a7,λz=>?_⟩
     rcases z.ret a5 with aY|aY
     .omega
     .exact aY
    simp only[br,aj]at a6
    refine⟨λk=>?_,λz=>?_⟩
    .simp only[aG]at k
     refine(HJ hV (A.af bb) C H (Z.ext A) k a1).aH Y P λj m8 t ak I=>⟨j,rfl,eU (t.trans ?_) (w.trans I)⟩
     refine⟨λu=>?_,λh=>h.apply k⟩
     refine⟨K,aa,?_,?_,ab,?_,?_,?_,?_,?_,?_,?_,?_⟩<;>intro q<;>first|(exfalso;omega)|exact u
    simp only[aj]at z
    refine⟨λk=>?_,λF=>?_⟩
    .simp only[aG]at k
     have X:=C.lx.2.1 V
     have S:=aW V
     refine⟨d,H.g3,V,V,_,ga A V,S.1,V,_,H.ak.pA S.1 S.2,eU ?_ A⟩
     simp only[om,ar]
     refine⟨λu=>?_,λh=>h.drop k⟩
     refine⟨K,aa,?_,?_,ab,?_,?_,?_,?_,?_,?_,?_,?_⟩<;>intro q<;>first|(exfalso;omega)|exact u
    simp only[aj]at F
    refine⟨λk=>?_,λD=>?_⟩
    .simp only[bQ,aG]at k
     refine(DW hV C H (Z.ext A) V a1).aH Y P λj m8 t ak I=>⟨j,rfl,eU (t.trans ?_) (w.trans I)⟩
     refine⟨λu=>?_,λh=>⟨h.WM,h.load,h.Fb,h.NA⟩⟩
     refine⟨K,aa,?_,?_,ab,?_,?_,?_,u.1,?_,u.2.2.2,u.2.1,u.2.2.1⟩<;>intro q<;>exfalso<;>omega
    .simp only[br,aj]at D
     refine iO ?_ A
     refine⟨K,aa,?_,?_,ab,?_,?_,?_,?_,?_,?_,?_,?_⟩<;>intro q<;>exfalso<;>omega
end
section
variable{N c:Nat}{b:Nat->Nat}{a:E}{h:List bM}
def mT(w:Int)(a:E):Ho cp 109 [vi w] a (vi (gH w)):=by
 apply vP;unfold gH;exact⟨λh=>by simp at h;rw[an h];exact⟨rfl,J.az _⟩,λh=>by simp at h;rw[ae V];exact⟨rfl,J.az _⟩⟩
def uw{d:O}(s:dK N b a d h)(A:∀e,a.size<=e->b e=0)(kb:cE a c eD [.s d])(C:b c=5)(H:h.length<=2000000000):
 aN cp 176 [vp c 0] a λ_ g=>dK N b g (d.cut 0 (ji h h.length) 3) (ns h)/\cE g c eD [.s (d.cut 0 (ji h h.length) 3)]/\HC b a b g:=by
 apply zO (c,0)
 have G:=s.len
 have t:=s.cells V
 have E:=t.cap
 have j:af a c 0=some (O.v d):=kb.cg 0
 refine⟨d,j,λl g=>g=a/\∃n:Nat,l=n/\n<=h.length/\ji h n=ji h h.length,λl _=>l.toNat,⟨rfl,h.length,V,ad _,rfl⟩,?_⟩
 rintro l e ⟨rfl,n,rfl,B,u⟩
 have x:Int.toNat (0:Int)=0:=rfl
 have en:Int.toNat (n:Int)=n:=V
 have iI:ji h n=n->dK N b (ah e c 0 [.s (d.cut 0 n 3)]) (d.cut 0 (ji h h.length) 3) (ns h)/\cE (ah e c 0 [.s (d.cut 0 n 3)]) c eD [.s (d.cut 0 (ji h h.length) 3)]/\HC b e b (ah e c 0 [.s (d.cut 0 n 3)]):=λw=>by
  have f:dp (λk=>k=5) b e b (ah e c 0 [.s (d.cut 0 n 3)]):=dp.ah A C _ _;have i:ji h h.length=n:=by rw[<-u,w]
  rw[i];refine⟨?_,cE.ah (m:=e) (o:=0) (r:=[.s (d.cut 0 n 3)]) kb,f.mono λk z=>Or.inr (Or.inl z)⟩;have:=(s.eI f bh bh).cut B;unfold ns;rw[i];exact this
 refine⟨λp=>?_,λp=>?_⟩
 .simp only[kG,ar]at p
  obtain⟨k,rfl⟩:∃k,n=k+1:=⟨n -1,V⟩
  have i:cT (((k+1:Nat):Int) -1)=(k:Int):=by rw[aQ V V];omega
  let⟨v,f⟩:=cG h k
  obtain⟨D,F,y,_⟩:=t.aF f
  refine⟨d,j,?_⟩
  rw[i]
  refine⟨V,V,v.aP,by simpa using y,λq=>⟨⟨rfl,k,rfl,V,?_⟩,by show(k:Int).toNat<((k+1:Nat):Int).toNat;omega⟩,λq=>⟨d,j,V,V,V,kb.fK aL,?_⟩⟩
  .rw[<-u,P9 f (by simpa using q)]
  .rw[x,en];exact iI (Mg f (by simpa using q))
 .simp only[kG,bL]at p
  have q:n=0:=V
  subst q
  exact⟨d,j,V,V,V,kb.fK aL,iI rfl⟩
def FL{e:O}(hh:dK N b a e h)(hn:∀g,a.size<=g->b g=0)(kb:cE a c eD [.s e])(hr:b c=5){v:Int}{W:Nat->Int}(hI:fN h (λg=>W g+eC [v] g))(he:∀g,0<=W g)(a5:h.length<=2000000000):
 aN cp 107 [vp c 0,vi v] a λ_ q=>∃u aw,dK N u q aw (ns (gZ h [v]))/\cE q c eD [.s aw]/\HC b a u q:=by
 apply zN (c,0)
 intro r
 have X:J a r:=(J.az a).aK _
 have s1:r.size=a.size+1:=by simp[r]
 have o1:gW a r aA 1 (.mk a.size 0 1 1) ([v].map Ce.i):=gW.new (J.az a) aA 1 _ 1 aL
 have c1:HC b a (od b a.size 6) r:=dp.od X hn (ad _) V 6
 have a1:iG (od b a.size 6) r aA 1 6 (.mk a.size 0 1 1) ([v].map Ce.i):=iG.gA o1 λ_=>fI _ _ _
 have aK:dK N (od b a.size 6) r e h:=hh.eI (dp.od (p:=λ_=>False) X hn (ad _) V 6) id id
 have aT:=kb.ext X
 have aO:od b a.size 6 c=5:=by rw[eV (oh kb.lt)];exact hr
 clear_value r
 have aX:=Ow λaE d=>(hI.cell aE d).fl
 have aY:=hh.len
 refine OY (γ:=List bM×List Int) (λi G q=>∃u,dK N u q e i.1/\iG u q aA 1 6 G (i.2.reverse.map Ce.i)/\HC b a u q/\fN i.1 (λg=>W g+eC i.2 g)/\gZ i.1 i.2=gZ h [v]/\i.1.length=h.length/\i.2.length+Cc i.1<=1+Cc h/\cE q c eD [.s e]/\u c=5) (λi=>Cb i.1+i.2.length) (h,[v])
  ⟨_,aK,a1,c1,hI,rfl,rfl,aL,aT,aO⟩ ?_
 rintro⟨d,st⟩ G m2 aU μ ⟨m,B,a2,i,t,y,K,ak,P,z⟩ ae
 simp only[]at B a2 t y K ak
 have az:G.len=st.length:=by have:=a2.len;simp at this;omega
 refine⟨λY=>?_,λY=>?_⟩
 .simp only[kG,ar]at Y
  cases st with
  |nil=>simp at az;omega
  |cons x s=>
   simp only[Qj]at a2
   let⟨p1,p2,p3⟩:=a2.UX
   simp only[aZ,mN]at az p1 p2 p3 ak
   have e1:cT ((G.len:Int) -1)=(s.length:Int):=by rw[aQ V V];omega
   have aV:=a2.le
   have e2:Int.toNat (0:Int)=0:=rfl
   have e3:Int.toNat (s.length:Int)=s.length:=V
   have aB:1000<=x->fY d x:=λM=>t.Pt he M
   have aS:x<=9223372036854775807:=by
    rcases dR (1000<=x)with k|k
    .have:=av (bS (aB k)).1;unfold ix at this;omega
    .omega
   refine⟨e,P.cg 0,?_⟩
   rw[e1,e2,e3]
   refine⟨V,V,x,p2,(ij (B.cells V) aS).mono ?_⟩
   rintro _ Q ⟨aD,g,rfl,ah,aI,n⟩
   refine⟨aD,g,rfl,V,V,V,λaJ=>?_,λai=>?_⟩
   .have M:=nb ah aJ
    have H:HC m m2 m Q:=dp.eH _ n i.new
    refine ae (d,s) _ _ ⟨m,B.eI (dp.eH (λ_=>False) n i.new) id id,p3.eI (dp.eH (λ_=>False) n i.new) id,i.trans H,t.Rm ?_,?_,K,by simp only[];omega,P.ext n,z⟩ aL
    .rcases dR (1000<=x)with k|k
     .exact absurd (aB k) M
     .omega
    .rw[<-qt (w:=x) M];exact y
   .have E:=yb ah ai
    have aH:=aI (by simpa using ai)
    subst aH
    let⟨j,ax⟩:=bS E
    have ao:=av j
    have a0:=(t.cell _ (aq j)).hi
    have aF:Int.toNat ((ix x:Nat):Int)=ix x:=V
    have H:HC m m2 m Q:=dp.eH _ n i.new
    have C:dK N m Q e d:=B.eI (dp.eH (λ_=>False) n i.new) id id
    have a3:=p3.eI (dp.eH (λ_=>False) n i.new) id
    have F:=P.ext n
    obtain⟨f0,g0,_,_,_,_⟩:=C.cg j
    refine⟨e,F.cg 0,?_⟩
    rw[aF]
    refine⟨V,V,_,g0,V,V,C.wr (o:=0) ao bh,?_⟩
    have e5:cT ((aM d x).aP -1)=(aM d x).aP -1:=aQ V V
    rw[e5]
    intro m4
    let⟨ab,T⟩:=C.rp H.new j ((aM d x).aP -1)
    have a4:=a3.eI T bh
    have A:cE m4 c eD [.s e]:=F.congr (T.eB _ F.lt (by rw[z];decide))
    have S:HC b a m m4:=(i.trans H).trans (T.mono λaC D=>Or.inl D)
    have Z:=km (d:=iZ) j
    simp only[an ax,iZ]at Z
    simp at Z
    have aR:(d.set (ix x) {aM d x with aP:=(aM d x).aP -1})[ix x]? =some {aM d x with aP:=(aM d x).aP -1}:=eJ j
    obtain⟨f1,k0,_,k2,kf,kr⟩:=ab.cg aR
    refine⟨e,A.cg 0,V,V,_,k0,λk=>?_,λk=>?_⟩
    .simp only[aG]at k
     have au:(aM d x).aP=1:=V
     have aW:=(t.cell _ (aq j)).fl
     have aa:=kf.len
     simp only[]at aa kf kr
     have I:=zG iZ j
     simp only[iZ,eW]at I
     refine⟨e,A.cg 0,V,V,f1,k2,iG.append (zs:=[.i 0]) (c:=(aM d x).aE.map Ce.i) a4 S.new (by simp[aa]) kf.H9 ?_ λaf a6 m5 q1 R=>?_⟩
     .have:(G.cut 0 s.length 1).len=s.length:=by have:=a4.len;simp at this;omega
      rw[this,aa];omega
     have al:=ab.eI R bh bh
     have ag:HC b a af m5:=S.trans (R.mono λaC D=>Or.inr (Or.inr D))
     have ac:cE m5 c eD [.s e]:=A.congr (R.eB _ A.lt (by rw[z];decide))
     have ay:af c=5:=by rw[R.gU _ A.lt];exact z
     have ap:ix x<(d.set (ix x) {aM d x with aP:=(aM d x).aP -1}).length:=by simpa using ao
     refine⟨e,ac.cg 0,V,V,al.wr (o:=0) ap bh,?_⟩
     intro m7
     let⟨am,U⟩:=al.setCell ag.new ap 0 0 (f:=.nil) (l:=[]) ⟨rfl,aL,aL,aL⟩ (λL=>absurd rfl L)
     rw[Xh]at am
     refine ae (d.set (ix x) iZ,(aM d x).aE.reverse++s) _ _ ⟨af,am,?_,ag.trans (U.mono λaC D=>Or.inl D),t.Rn he E au,?_,by simpa using K,?_,ac.congr (U.eB _ ac.lt (by rw[ay];decide)),ay⟩ ?_
     .have:=q1.eI U bh
      simpa using this
     .rw[<-sT E au];exact y
     .simp only[be,mN]
      have D:Cc (d.set (ix x) iZ)+(aM d x).aE.length=Cc d:=by simpa[iZ]using I
      omega
     .simp only[be,mN,aZ]
      have D:Cb (d.set (ix x) iZ)+((aM d x).aP.toNat+(aM d x).aE.length)=Cb d:=by simpa[iZ]using Z
      omega
    .simp only[aj]at k
     have L:(aM d x).aP≠1:=V
     have D:=km (d:={aM d x with aP:=(aM d x).aP -1}) j
     simp only[an ax]at D
     rw[an V]at D
     have I:=zG {aM d x with aP:=(aM d x).aP -1} j
     refine ae (fj d x,s) _ _ ⟨m,ab,a4,S,t.Pu he E L,?_,by simpa[fj]using K,?_,A,z⟩ ?_
     .rw[<-ql E L];exact y
     .simp only[fj];simp only[]at I;omega
     .simp only[fj,aZ];omega
 .simp only[kG,bL]at Y
  have j:st=[]:=List.length_eq_zero_iff.1 V
  subst j
  rw[sS]at y
  subst y
  refine(uw B i.new P z V).mono ?_
  rintro _ Q ⟨C,F,g⟩
  exact⟨m,_,C,F,i.trans g⟩
def PA{i:O}(f:cW a i h):aN cp 216 [O.v i,.func (.func 217) #[] #[]] a λB j=>∃r:Int,B=vi r/\J a j/\(if dF h=h.length then r= -1 else r=dF h):=by
 apply lW i (.func 217,#[],#[]);have y:=f.len;refine dU (n:=h.length) (y▸f.gT) (λk j=>J a j/\∀b∈h.take k,b.aP≠0) ⟨J.az _,aL⟩ ?_;rintro k o I μ x ⟨e,g⟩ A
 refine dit (λs=>?_) λs=>?_
 .let⟨b,d⟩:=cG h k;let⟨l,C,q,g1,g2⟩:=(cW.ext e f).aF d;refine⟨V,V,b.aP,by simpa using q,_,by simpa using g1,l,by simpa using g2,217,rfl,bh,?_⟩;have v:dt cp 217 [.agg #[vi b.aP,vi b.j9,O.v l]] o (b.aP=0):=by
   apply vJ;simp -zeta only[aC,aB];intro z;exact eU aL ((J.az o).aK _)
  refine aN.mono v ?_;rintro _ z ⟨p,rfl,c,m⟩;refine⟨p,rfl,λu=>⟨_,rfl,e.trans m,?_⟩,λt=>A V _ ⟨e.trans m,bB d g (fb c t)⟩⟩;have w:=HB h k b g d (c.1 u);have:=av d;rw[ae V,w]
 .refine⟨_,rfl,e,?_⟩;have:=zE h k x g;have:=qv h;rw[an V]
def DU{e:O}(l:dK N b a e h)(B:∀s,a.size<=s->b s=0)(kb:cE a c eD [.s e])(P:b c=5)(G:Int){Y:O}{E:List Int}(hf:ap a Y E)(aq:h.length<=1000000000)(hl:E.length<=1000000000)(hN:N<=a.size):
 aN cp 175 [vp c 0,vi G,O.v Y] a λak S=>∃i aa,ak=vi (1000+dF h)/\dK N i S aa (jd h (dF h) ⟨1,G,E⟩)/\cE S c eD [.s aa]/\HC b a i S:=by
 apply yv (c,0)
 simp -zeta only[aC,aB]
 refine(eN hf hl).then hl λW y o1 i1 Z=>⟨W,rfl,?_⟩
 intro m2 F
 have z:J y F:=((J.az y).aK _).ah (ad _) _ _
 have s3:F.size=y.size+1:=by simp[F,m2,aw]
 have Q:=Z.trans z
 clear_value F
 have ab:E≠[]->b W.D=0:=λah=>by
  rcases o1.D with j|j
  .subst j;have:=i1.len;simp at this;exact absurd (List.length_eq_zero_iff.1 this.symm) ah
  .exact B _ j
 have L:b y.size=0:=B _ Z.size
 have am:=l.len
 have al:=qv h
 refine⟨e,Q.af (kb.cg 0),(PA (cW.ext Q (l.cells V))).mono ?_⟩
 rintro _ g ⟨aj,rfl,q,C⟩
 have w:=Q.trans q
 have t:HC b a b g:=dp.eH _ w B
 have M:dK N b g e h:=l.eI (dp.eH (λ_=>False) w B) id id
 have n:=kb.ext w
 have i4:=i1.ext (z.trans q)
 have ao:=q.size
 refine⟨q.dv bE,aj,rfl,λj=>?_,λj=>?_⟩
 .simp at j
  have A:dF h=h.length:=by
   rcases dR (dF h=h.length)with u|u
   .exact u
   .rw[ae u]at C;omega
  refine⟨e,n.cg 0,e,n.cg 0,?_⟩
  intro p
  have k:J g p:=(J.az g).aK _
  have s5:p.size=g.size+1:=by simp[p]
  have ju:fQ p g.size 0 [.i 1,.i G,.s W]:=(cE.push g _ _).iB
  have X:HC b a b p:=t.trans (dp.eH _ k t.new)
  clear_value p
  refine⟨k.da (n.cg 0),dK.push (M.eI (dp.eH (λ_=>False) k t.new) id id) X.new (x:=.mk g.size 0 1 1) rfl ju (i4.ext k) (Rc.of l (λK=>(w.trans k).same _ (l.D K).2) (λ_=>o1.ext ((z.trans q).trans k)) ab hN) V λi af T U d=>?_⟩
  have R:=n.ext k
  have ac:cE T c eD [.s e]:=R.congr (d.eB _ R.lt (by rw[P];decide))
  have ai:i c=5:=by rw[d.gU _ R.lt];exact P
  have ag:i y.size=0:=by rw[d.gU _ V];exact L
  refine⟨λs f=>?_,ac.fK aL,?_⟩
  .simp at f;subst f
   exact d.eB _ V (by rw[L];decide)
  intro m7
  have H:dp (λD=>D=5) i T i m7:=dp.ah d.new ai _ _
  have I:cT (1000+(e.len:Int))=1000+(dF h:Int):=by rw[aQ V V];omega
  rw[I]
  refine⟨λs f=>?_,i,af,rfl,?_,cE.ah (m:=T) (o:=0) (r:=[.s af]) ac,(X.trans (d.mono λD v=>Or.inl v)).trans (H.mono λD v=>Or.inr (Or.inl v))⟩
  .simp at f;subst f
   exact H.eB _ (oh d.size) (by rw[ag];decide)
  .rw[jd,an A];exact U.eI H bh bh
 .simp at j
  have A:dF h≠h.length:=λu=>by rw[an u]at C;omega
  rw[ae A]at C
  subst C
  have k:dF h<h.length:=V
  have H:Int.toNat ((dF h:Nat):Int)=dF h:=V
  have I:cT (1000+(dF h:Int))=1000+(dF h:Int):=aQ V V
  refine⟨e,n.cg 0,?_⟩
  rw[H,I]
  refine⟨V,V,M.wr (o:=0) k bh,?_⟩
  intro p
  let⟨U,d⟩:=M.setCell t.new k 1 G i4 (Rc.of l (λK=>w.same _ (l.D K).2) (λ_=>o1.ext (z.trans q)) ab hN)
  refine⟨λs f=>?_,b,e,rfl,?_,n.congr (d.eB _ n.lt (by rw[P];decide)),t.trans (d.mono λD v=>Or.inl v)⟩
  .simp at f;subst f
   exact d.eB _ V (by rw[L];decide)
  .rw[jd,ae A];exact U
end
section
variable{l:List Int}
def Oz{i a b:Int}(l:gL a)(m:gL b)(o:E):Ho cp 174 [vi i,vi a,vi b] o (vi (OI i a b)):=by
 unfold gL at l m;have s: -2000000<=a*b/\a*b<=2000000:=by
  have c:(a*b).natAbs<=999*999:=by rw[Int.natAbs_mul];exact Mm V V
  omega
 have k:∀n:Int,(if(999:Int)<(if(-999:Int)>n then(-999:Int)else n)then(999:Int)else(if(-999:Int)>n then(-999:Int)else n))=Fu n:=λn=>by
  unfold Fu;repeat' split
  all_goals omega
 have p:cT (a+b)=a+b:=aQ V V;have q:cT (a -b)=a -b:=aQ V V;have r:cT (a*b)=a*b:=aQ V V;apply JC;rw[p,q,r,k,k,k];unfold OI;refine⟨λh=>by simp at h;omega,λ_=>⟨λh=>by simp at h;omega,λ_=>⟨λh=>by simp at h;omega,λ_=>⟨λh=>by simp at h;omega,λ_=>⟨λc=>?_,λc=>⟨λd=>?_,λd=>⟨λe=>?_,λe=>⟨λf=>⟨λj=>?_,λj=>?_⟩,λf=>?_⟩⟩⟩⟩⟩⟩⟩⟩
 .simp at c;rw[an c];exact⟨rfl,J.az _⟩
 .simp at c d;rw[ae c,an d];exact⟨rfl,J.az _⟩
 .simp at c d e;rw[ae c,ae d,an e];exact⟨rfl,J.az _⟩
 .simp at c d e f j;have g:i=4/\a<b:=⟨f,j⟩;rw[ae c,ae d,ae e,an g];exact⟨rfl,J.az _⟩
 .simp at c d e f j;have g:¬(i=4/\a<b):=V;rw[ae c,ae d,ae e,ae g];exact⟨rfl,J.az _⟩
 .simp at c d e f;have g:¬(i=4/\a<b):=V;rw[ae c,ae d,ae e,ae g];exact⟨rfl,J.az _⟩
def uW{a:E}{fb e:Nat}{f:aX}{j:O}(w:af a fb (e+3)=some (O.v j))(p:ap a j f.ak){s:O}(q:ap a s l)(A:∀y∈l,0<=y/\y<f.ak.length)(L:l.length<=100000000):
 ov 106 [vp fb e,O.v s] a (cL f l):=by
 apply wQ (fb,e)
 have K:=q.len
 have H:=p.len
 have t:Int.toNat (s.len:Int)=l.length:=V
 rw[t]
 refine⟨V,dg _,V,V,?_⟩
 intro d
 have z:J a d:=(J.az a).aK _
 have C:cE d a.size aA ((dk l.length).map Ce.i):=by rw[<-tR];exact cE.push a _ _
 have M:d.size=a.size+1:=by simp[d]
 clear_value d
 simp only[O.jB,O.mV,O.gF,bU]
 refine dU (n:=l.length) V (λk b=>J a b/\cE b a.size aA ((cL f (l.take k)++dk (l.length -k)).map Ce.i)) ⟨z,by simpa[cL]using C⟩ ?_
 rintro k D I μ G ⟨b,c⟩ F
 refine dit (λx=>?_) λx=>?_
 .let⟨y,h⟩:=cG l k
  have i:=A y (aq h)
  have v:Int.toNat (k:Int)*1=k:=V
  refine⟨V,V,y,by simpa using b.af (q.aF h),j,b.af w,i.1,V,_,b.af (p.pA i.1 i.2),V,V,?_⟩
  rw[v]
  have g:(cL f (l.take k)).length=k:=by simp[cL];omega
  refine⟨c.fK (by simp[g,kd];omega),?_⟩
  refine F V _ ⟨b.ah (ad _) _ _,?_⟩
  have:=cE.ah (m:=D) (o:=k) (r:=[.i (aF f.ak y)]) c
  have u:jb ((cL f (l.take k)++dk (l.length -k)).map Ce.i) k [.i (aF f.ak y)]=(cL f (l.take (k+1))++dk (l.length -(k+1))).map Ce.i:=by
   have B:dk (l.length -k)=0::dk (l.length -(k+1)):=by
    have:l.length -k=(l.length -(k+1))+1:=V;rw[this];rfl
   rw[B,ft,lD _ _ _ _ (by simp[g])];simp only[dZ,g,Ql,cK,jb,iz];rw[aU h];simp[cL]
  rw[u]at this;exact this
 .have g:k=l.length:=V
  subst g
  rw[fu,Ql]at c
  simp only[dk,Nc,dY]at c
  refine⟨_,rfl,⟨by simp[cL],Or.inr ⟨a.size,l.length,[],rfl,ad _,by rw[dY];exact c,by simp[cL],ad _⟩⟩,b⟩
abbrev IB(d p:O)(c:Int)(s:St)(aT b a:O):List Ce:=[.s d,.s p,.i c,.i s.bV,.i s.value,.i s.bu,.i s.dV,.s aT,.s b,.s a]
def DI(g:E)(i:Nat->Nat)(m:E)(h:Nat)(f p:O)(e:Int)(s:St)(c:E):Prop:=
 ∃d aT b a,vy g d c h bR (IB f p e s aT b a) aT b a s.aT s.heap s.ao/\To i m d c
def DI.from{b:E}{g h:Nat->Nat}{m e a:E}{f:Nat}{d p:O}{c:Int}{s:St}(j:DI b h e f d p c s a)(o:To g m h e):DI b g m f d p c s a:=
 let⟨q,aT,n,i,k,l⟩:=j
 ⟨q,aT,n,i,k,o.trans l⟩
section
variable{p:E}{c s:Nat->Nat}{m d:E}{q e:Nat}{g:List Ce}{aT j a:O}{n:List Int}{k:List bM}{b:List aX}{f:aX}{r o h:O}{i:List (List Ce)}
def ST.ZA(S:ST p c m q e g aT j a n k b f r o h i)(l:dp (λ_=>False) c m s d):ST p s d q e g aT j a n k b f r o h i/\To c m s d:=by
 let⟨L,t⟩:=S.cQ.gB (l.mono λ_=>False.elim) (S.cQ.heap.eI l id id);exact⟨⟨L,S.fU.eI l λ_ _=>id⟩,t⟩
def ST.fp(S:ST p c m q e g aT j a n k b f r o h i)(d:f.ak.length<=1000000/\f.aR.length<=1000000/\f.ba.length<=1000000):FP m a.D (a.off+b.length*6) f r o h:=by
 obtain⟨_,_,_,l,s,t⟩:=S.fU.iB;exact⟨l,s,t,S.Ab d.1,S.Jo d.2.1,S.QP d.2.2⟩
def rf(S:ST p c m q e g aT j a n k b f r o h i){s:Int}(l:0<=s)(u:s<f.ak.length)(v:s<f.aR.length)(w aR:Int):
 aN cp 103 [vp a.D (a.off+b.length*6),vi s,vi w,vi aR] m λ_ d=>ST p c d q e g aT j a n k b (f.put s w aR) r o h i/\To c m c d:=by
 apply zH (a.D,a.off+b.length*6)
 obtain⟨_,_,_,y,z,A⟩:=S.fU.iB
 have C:r.len=f.ak.length:=by have:=S.fU.ak.len;simp at this;omega
 have B:o.len=f.aR.length:=by have:=S.fU.aR.len;simp at this;omega
 let⟨t,t1⟩:=S.Ag l u w
 let⟨x,t2⟩:=t.pO l (by simpa using v) aR
 exact⟨r,y,o,z,l,V,S.fU.ak.NQ l u,l,V,t.fU.aR.NQ l v,x,t1.trans t2⟩
end
section
variable{n:E}{g:Nat->Nat}{a:E}{k:Nat}{d p aT b e:O}{c:Int}{s:St}{j:List aX}{f:aX}{u t h:O}{q:List (List Ce)}
def ST.Oy{d:Nat}{c:List Ce}{l:List Int}{i:List bM}(S:ST n g a k d c aT b e l i j f u t h q):
 ST n (od g a.size 5) (ah (a.push (.cells (bt [.s O.nil]) eD)) a.size 0 [.s b]) k d c aT b e l i j f u t h q/\To g a (od g a.size 5) (ah (a.push (.cells (bt [.s O.nil]) eD)) a.size 0 [.s b])/\
  cE (ah (a.push (.cells (bt [.s O.nil]) eD)) a.size 0 [.s b]) a.size eD [.s b]:=by
 have v:J a (ah (a.push (.cells (bt [.s O.nil]) eD)) a.size 0 [.s b]):=((J.az a).aK _).ah (ad _) _ _
 have s:dp (λ_=>False) g a (od g a.size 5) (ah (a.push (.cells (bt [.s O.nil]) eD)) a.size 0 [.s b]):=dp.od v S.cQ.new (ad _) (by rw[aw];simp) 5
 let⟨p,t1⟩:=S.ZA s
 exact⟨p,t1,cE.ah (m:=a.push (.cells (bt [.s O.nil]) eD)) (o:=0) (r:=[.s b]) (cE.push a _ _)⟩
def Dm(S:ST n g a k bR (IB d p c s aT b e) aT b e s.aT s.heap j f u t h q)(r:Int){z:O}(E:ap a z l)(M:l.length<=1000000)(D:s.heap.length<=1000000000):
 aN cp 105 [vp k 0,vi r,O.v z] a λL x=>L=vi (1000+dF s.heap)/\∃y w,ST n y x k bR (IB d p c s aT w e) aT w e s.aT (jd s.heap (dF s.heap) ⟨1,r,l⟩) j f u t h q/\To g a y x:=by
 apply uT (k,0)
 simp -zeta only[aC,aB]
 refine⟨b,S.cQ.box.cg 8,?_⟩
 intro N H
 let⟨m,t2,kb⟩:=S.Oy
 have F:J a H:=((J.az a).aK _).ah (ad _) _ _
 refine(DU m.cQ.heap m.cQ.new kb (fI _ _ _) r (E.ext F) D V m.cQ.cy.size).mono ?_
 rintro _ P ⟨I,o,rfl,C,G,B⟩
 let⟨v,t3⟩:=m.gB B C
 refine⟨_,rfl,o,G.cg 0,v.cQ.mw (i:=8) aL,?_⟩
 intro Q
 let⟨A,K⟩:=v.jw 8 [.s o]
 exact⟨rfl,I,o,A,(t2.trans t3).trans K⟩
def FK(S:ST n g a k bR (IB d p c s aT b e) aT b e s.aT s.heap j f u t h q){x:Instr}{W aw:O}(ha:ap n W x.args)(ah:∀y∈x.args,0<=y/\y<f.ak.length)(aD:x.args.length<=4)
 (aH:f.ak.length=f.aR.length/\f.ba.length=f.aR.length/\f.aR.length<=2000)(aG:0<=x.bZ/\x.bZ<=f.ba.length)(ak:s.heap.length<=1000000000)(am:∀w∈f.ba,w≠0->1000<=w/\ix w<s.heap.length):
 aN cp 104 [vp k 0,vp e.D (e.off+j.length*6),xv x W aw] a λaz m'=>∃(H:Nat->Nat)(E:O)(m:Nat)(i:aX),az=vi (1000+m)/\ST n H m' k bR (IB d p c s aT E e) aT E e s.aT (jd s.heap m ⟨1,x.bP,cL f x.args⟩) j i u t h q/\To g a H m'/\
  i.ak=f.ak/\i.aR=f.aR/\i.pc=f.pc/\(∀y,nv s j {f with pc:=y} x x.bP={s with heap:=jd s.heap m ⟨1,x.bP,cL f x.args⟩,ao:=j++[aX.put {i with pc:=y+1} x.dst (1000+m) 1]}):=by
 apply rQ (k,0) (e.D,e.off+j.length*6)
 simp -zeta only[aC,aB]
 intro G
 have au:J a G:=(J.az a).aK _
 have s1:G.size=a.size+1:=by simp[G]
 let⟨z,t1⟩:=S.ext au
 have T:zi g G [a.size]:=λaA hb=>by simp at hb;subst hb;exact⟨V,S.cQ.new _ (ad _)⟩
 clear_value G
 have U:=z.fp ⟨V,V,V⟩
 have aE:h.len=f.ba.length:=by have:=S.fU.ba.len;simp at this;omega
 refine(uW U.g3 U.ak (ha.ext z.cQ.cy) ah V).mono ?_
 rintro _ P ⟨C,rfl,R,Z⟩
 let⟨r,t2⟩:=z.ext Z
 have K:=T.to t2
 have aJ:(cL f x.args).length=x.args.length:=by simp[cL]
 have F:ap P C (cL f x.args):=ap.gA R V
 have af:=t1.trans t2
 have none:¬(x.bZ≠0/\aF f.ba (x.bZ -1)≠0)->aN cp 105 [vp k 0,vi x.bP,O.v C] P λax N=>eG [a.size] P N/\∃ac:Int,ax=vi ac/\∃(H:Nat->Nat)(E:O)(m:Nat)(i:aX),vi ac=vi (1000+m)/\ST n H N k bR (IB d p c s aT E e) aT E e s.aT (jd s.heap m ⟨1,x.bP,cL f x.args⟩) j i u t h q/\To g a H N/\
  i.ak=f.ak/\i.aR=f.aR/\i.pc=f.pc/\(∀y,nv s j {f with pc:=y} x x.bP={s with heap:=jd s.heap m ⟨1,x.bP,cL f x.args⟩,ao:=j++[aX.put {i with pc:=y+1} x.dst (1000+m) 1]}):=λaq=>by
  refine(Dm r x.bP F V ak).mono ?_
  rintro _ Q ⟨rfl,ay,ar,v,t3⟩
  exact⟨t3.dI K,_,rfl,ay,ar,dF s.heap,f,rfl,v,af.trans t3,rfl,rfl,rfl,λy=>by rw[nv,ae aq];rfl⟩
 refine⟨t2.dI T,C,rfl,λD=>none λL=>by simp at D;exact L.1 D,λD=>?_⟩
 simp at D
 have e1:cT (x.bZ -1)=x.bZ -1:=aQ V V
 have l:0<=x.bZ -1/\x.bZ -1<f.ba.length:=V
 have I:=r.fp ⟨V,V,V⟩
 have X:=I.ba.pA l.1 l.2
 refine⟨h,I.g5,?_⟩
 rw[e1]
 refine⟨V,V,_,X,λB=>none λL=>by simp at B;exact L.2 B,λB=>?_⟩
 simp at B
 let⟨aa,ab⟩:=am _ (fx l.1 l.2) B
 have aI:=r.cQ.heap.len
 refine⟨h,I.g5,V,V,_,X,h,I.g5,V,V,r.fU.ba.NQ l.1 l.2,?_⟩
 intro Q
 let⟨v,t3⟩:=r.wX l.1 l.2 0
 have B3:=K.to t3
 have al:ix (aF f.ba (x.bZ -1))=(aF f.ba (x.bZ -1) -1000).toNat:=rfl
 have e2:cT (aF f.ba (x.bZ -1) -1000)=aF f.ba (x.bZ -1) -1000:=aQ V V
 refine⟨t3.dI K,b,v.cQ.box.cg 8,?_⟩
 rw[e2,<-al]
 refine⟨V,V,v.cQ.heap.wr (o:=0) ab bh,?_⟩
 intro m4
 have M:cL f x.args≠[]->g C.D=0:=λw=>by
  rcases R.D with A|A
  .subst A;have:=F.len;simp at this;exact absurd (List.length_eq_zero_iff.1 this.symm) w
  .exact S.cQ.new _ V
 have av:ap Q C (cL f x.args):=iQ F λw=>t3.eB _ (iF F w) (by rw[M w];simp)
 have aj:h.cap≠0:=λA=>by have:=(r.fU.ba.Dj A).1;simp at this;rw[this]at l;simp at l;omega
 have ag:Rc n.size g Q b s.heap C (cL f x.args):=Rc.of z.cQ.heap (λY=>(bd _ _ _ _ λA=>by have q1:=(r.fU.ba.D aj).2;have q2:=(r.cQ.heap.D Y).1;rw[A,q1]at q2;omega).trans (Z.same _ (z.cQ.heap.D Y).2)) (λw=>R.congr (t3.eB _ (iF F w) (by rw[M w];simp))) M z.cQ.cy.size
 let⟨ai,c4⟩:=v.cQ.heap.setCell v.cQ.new ab 1 x.bP av ag
 let⟨S4,t4⟩:=v.gB (c4.mono λaK Y=>Or.inl Y) ai
 have Y:jd s.heap (ix (aF f.ba (x.bZ -1))) ⟨1,x.bP,cL f x.args⟩=s.heap.set (ix (aF f.ba (x.bZ -1))) ⟨1,x.bP,cL f x.args⟩:=by rw[jd,ae V]
 refine⟨t4.dI B3,g,b,ix (aF f.ba (x.bZ -1)),{f with ba:=gR f.ba (x.bZ -1) 0},by rw[il aa],by rw[Y];exact S4,(af.trans t3).trans t4,rfl,rfl,rfl,λy=>?_⟩
 rw[nv,an ⟨D,B⟩,Y,il aa];rfl
end
end
section
variable{w:Int}
def La:∀(b:List Int)(g:List bM),(∀v∈b,fY g v)->∀x,fY g x->fY (je g b) x
 |[],g,_,x,c=>c
 |v::b,g,d,x,c=>by
  have e:=d v bg;have up:∀y,fY g y->fY (mQ g v) y:=λy a=>⟨a.1,(fP.mQ e _).2 a.2⟩;exact La b (mQ g v) (λy a=>up y (d y (ai _ a))) x (up x c)
def Si{h:List bM}(c:fY h w)(d:(aM h w).aP≠1){x:Int}(a:fY h x):fY (fj h w) x:=by
 let⟨b,f⟩:=bS c;refine⟨a.1,?_⟩;by_cases e:ix x=ix w
 .rw[e];unfold fj;rw[fP.yB b];simp only[];omega
 .exact(fP.ne e).2 a.2
section
variable{t:E}{e:Nat->Nat}{m:E}{j:Nat}{d p aT b g:O}{c:Int}{s:St}{q:List aX}{a:aX}{r v h:O}{u:List (List Ce)}
open Classical in
noncomputable def rL (g:List bM) (w:Int) (eB:Bool):List bM:=
 if(aM g w).aP=1/\eB=true then g.set (ix w) ⟨-1,0,dk (aM g w).aE.length⟩else apart g w
def Dn(S:ST t e m j bR (IB d p c s aT b g) aT b g s.aT s.heap q a r v h u)(ab:fY s.heap w)(eB:Bool){az:Nat->Int}(N:fN s.heap az)(aZ:s.heap.length<=1000000000):
 aN cp 113 [vp j 0,vi w,vb eB] m λk A=>∃G:Bool,k=vb G/\(G=true<->(aM s.heap w).aP=1/\eB=true)/\∃ax ar,ST t ax A j bR (IB d p c s aT ar g) aT ar g s.aT (rL s.heap w eB) q a r v h u/\To e m ax A:=by
 apply uU (j,0)
 simp -zeta only[aC,aB]
 let⟨C,a7⟩:=bS ab
 have K:=av C
 have a2:=S.cQ.heap.len
 have a1:=ab.1
 have aI:ix w=(w -1000).toNat:=rfl
 have e4:cT (w -1000)=w -1000:=aQ V V
 have ag:=N.cell _ (aq C)
 have a4:=ag.hi
 have aX:=ag.fl
 have g8:af m j 8=some (O.v b):=S.cQ.box.cg 8
 let⟨f0,Y,g1,g2,gf,gr⟩:=S.cQ.heap.cg C
 have aY:=gf.len
 rw[e4,<-aI]
 refine⟨b,g8,V,V,λA=>A=m/\¬((aM s.heap w).aP=1/\eB=true),⟨_,Y,λy=>⟨λz=>?_,λz=>⟨rfl,λx=>by rw[z]at x;simp at x⟩⟩,λy=>⟨rfl,λx=>by simp at y;exact y x.1⟩⟩,?_⟩
 .simp at y
  have W:Int.toNat (f0.len:Int)=(aM s.heap w).aE.length:=V
  refine⟨f0,g2,V,dg _,V,V,?_⟩
  rw[W]
  intro B
  have I:J m B:=(J.az m).aK _
  have L:gW m B aA 1 (.mk m.size 0 (aM s.heap w).aE.length (aM s.heap w).aE.length) ((dk (aM s.heap w).aE.length).map Ce.i):=by
   have X:B=m.push (.cells (bt ((dk (aM s.heap w).aE.length).map Ce.i)) aA):=by rw[<-tR]
   rw[X];exact NR _
  let⟨D,t1⟩:=S.ext I
  clear_value B
  refine⟨D.cQ.heap.wr (o:=0) K bh,?_⟩
  intro m2
  let⟨F,E⟩:=D.cQ.heap.setCell D.cQ.new K (-1) 0 (ap.gA L (by rw[kd];omega)) (Rc.of S.cQ.heap (λx=>I.same _ (S.cQ.heap.D x).2) (λ_=>L) (λ_=>S.cQ.new _ (ad _)) S.cQ.cy.size)
  let⟨H,t2⟩:=D.gB (E.mono λx z=>Or.inl z) F
  refine⟨true,rfl,by simp[y,z],e,b,?_,t1.trans t2⟩
  rw[rL,an ⟨y,z⟩];exact H
 .rintro B ⟨rfl,ao⟩
  have ak:(false=true<->(aM s.heap w).aP=1/\eB=true):=⟨sx,λh=>absurd h ao⟩
  rw[show rL s.heap w eB=apart s.heap w by rw[rL,ae ao]]
  refine⟨_,Y,λy=>?_,λy=>?_⟩
  .simp at y
   refine⟨S.cQ.heap.wr (o:=0) K bh,?_⟩
   intro m2
   let⟨F,E⟩:=S.cQ.heap.setCell S.cQ.new K 0 0 (f:=.nil) (l:=[]) ⟨rfl,aL,aL,aL⟩ (λT=>absurd rfl T)
   let⟨H,t2⟩:=S.gB (E.mono λx z=>Or.inl z) F
   refine⟨b,H.cQ.box.cg 8,?_⟩
   intro m3 m4
   let⟨D,Q,kb⟩:=H.Oy
   refine(uw D.cQ.heap D.cQ.new kb (fI _ _ _) bE).mono ?_
   rintro _ Z ⟨aa,P,M⟩
   let⟨I,R⟩:=D.gB M aa
   refine⟨_,P.cg 0,I.cQ.mw (i:=8) aL,?_⟩
   intro m6
   let⟨L,U⟩:=I.jw 8 [.s (b.cut 0 (ji (s.heap.set (ix w) ⟨0,0,[]⟩) (s.heap.set (ix w) ⟨0,0,[]⟩).length) 3)]
   refine⟨false,rfl,ak,_,b.cut 0 (ji (s.heap.set (ix w) ⟨0,0,[]⟩) (s.heap.set (ix w) ⟨0,0,[]⟩).length) 3,?_,((t2.trans Q).trans R).trans U⟩
   rw[apart,an y];exact L
  .simp only[aj]at y
   have W:cT ((aM s.heap w).aP -1)=(aM s.heap w).aP -1:=aQ V V
   refine⟨_,Y,S.cQ.heap.wr (o:=0) K bh,?_⟩
   rw[W]
   intro m2
   let⟨F,E⟩:=S.cQ.heap.rp S.cQ.new C ((aM s.heap w).aP -1)
   let⟨f1,k0,k1,k2,kf,kr⟩:=F.cg (eJ C)
   simp only[]at kf kr
   have a0:=kf.len
   refine⟨f1,k2,?_⟩
   have ai:∀{A},dp (λx=>x=3) e B e A->af A j 8=some (O.v b):=λhc=>by rw[aJ (hc.eB _ S.cQ.box.lt (by rw[S.cQ.Qn];decide))];exact g8
   have am:∀k∈(aM s.heap w).aE,1000<=k->fY (fj s.heap w) k:=λk D b=>Si ab y (N.field (aq C) D b)
   have aH:∀U∈fj s.heap w,-10<=U.aP/\U.aP<=999999:=λU hq=>by
    rcases nL hq with rfl|⟨G,_,P⟩
    .simp only[];omega
    .have:=N.cell U (aq P);have h5:=this.lo;have h6:=this.hi;omega
   have aV:dp (λx=>x=3) e B e m2:=E
   refine dU (n:=(aM s.heap w).aE.length) V (λx A=>dK t.size e A b (je (fj s.heap w) (kV ((aM s.heap w).aE.take x)))/\dp (λx=>x=3) e B e A/\ap A f1 (aM s.heap w).aE) ⟨F,E,kf⟩ ?_
   rintro x m3 aS μ z ⟨R,H,au⟩ aw
   refine dit (λh5=>?_) λh5=>?_
   .let⟨k,D⟩:=cG ((aM s.heap w).aE) x
    have aR:k<=9223372036854775807:=by
     rcases dR (1000<=k)with h6|h6
     .have:=av (bS (N.field (aq C) (aq D) h6)).1;unfold ix at this;omega
     .omega
    have aP:(je (fj s.heap w) (kV ((aM s.heap w).aE.take x))).length=s.heap.length:=by rw[vW];simp[fj]
    have aK:1000<=k->fY (je (fj s.heap w) (kV ((aM s.heap w).aE.take x))) k:=λb=>La _ _ (λL I=>am L (dA (lC.1 I).1) (lC.1 I).2) k (am k (aq D) b)
    refine⟨V,V,k,by simpa using au.aF D,b,ai H,(ij (R.cells (by rw[aP];omega)) aR).mono ?_⟩
    rintro _ m4 ⟨ay,G,rfl,P,aF,Z⟩
    have L:dp (λx=>x=3) e B e m4:=H.trans (dp.eH _ Z H.new)
    have I:=R.eI (dp.eH (λ_=>False) Z H.new) id id
    have ac:=au.ext Z
    refine⟨ay,G,rfl,λah=>?_,λaG=>aw V _ ⟨?_,L,ac⟩⟩
    .have al:=P.1 ah
     have aE:=aF ah
     subst aE
     let⟨Q,a5⟩:=bS al
     have aO:=av Q
     have a3:=I.len
     obtain⟨f4,j0,_⟩:=I.cg Q
     have aW:=zZ _ _ 999999 aH _ (aq Q)
     have a6:=nO ((aM s.heap w).aE.take x)
     have a8:((aM s.heap w).aE.take x).length<=3:=bE
     have X:cT ((aM (je (fj s.heap w) (kV ((aM s.heap w).aE.take x))) k).aP+1)=(aM (je (fj s.heap w) (kV ((aM s.heap w).aE.take x))) k).aP+1:=aQ V V
     have aD:Int.toNat ((ix k:Nat):Int)=ix k:=V
     refine⟨b,ai L,?_⟩
     rw[aD]
     refine⟨V,V,_,j0,V,V,I.wr (o:=0) aO bh,?_⟩
     rw[X]
     let⟨aa,M⟩:=I.rp L.new Q ((aM (je (fj s.heap w) (kV ((aM s.heap w).aE.take x))) k).aP+1)
     refine aw V _ ⟨?_,L.trans M,iQ ac λT=>M.eB _ (iF ac T) (by rw[(kr T).1];decide)⟩
     have:kV [k]=[k]:=by simp[kV,al.1]
     rw[aU D,oU,this,Ed]
     exact aa
    .have M:¬1000<=k:=λb=>fb P aG (aK b)
     have:kV [k]=[]:=by simp[kV];omega
     rw[aU D,oU,this,dY];exact I
   .rw[bY V]at R
    let⟨I,t3⟩:=S.gB (H.mono λx z=>Or.inl z) R
    refine⟨false,rfl,ak,e,b,?_,t3⟩
    rw[apart,ae y];exact I
def JD(Y:ST t e m j bR (IB d p c s aT b g) aT b g s.aT s.heap q a r v h u){f:Instr}{aa al:O}(ha:ap t aa f.args)(aj:∀z∈f.args,0<=z/\z<a.ak.length)(aq:f.args.length<=4)(av:f.op=0\/f.op=1\/f.op=2\/f.op=3\/f.op=4\/f.op=5)(h5:f.op=5->f.args.length=1)(h2:f.op≠0->f.op≠5->f.args.length=2)(ac:f.op≠0->∀z∈f.args,gL (aF a.ak z))
 (ar:a.ak.length=a.aR.length/\a.ba.length=a.aR.length/\a.aR.length<=2000)(hd:0<=f.dst/\f.dst<a.aR.length)(aw:s.aT.length<=1000000000):
 aN cp 102 [vp j 0,vp g.D (g.off+q.length*6),xv f aa al] m λ_ w=>DI t e m j d p c (if f.op=0 then{s with ao:=q++[a.put f.dst f.bP 0]}else if f.op=5 then{s with aT:=s.aT++[aF a.ak (aF f.args 0)],ao:=q++[a.put f.dst (aF a.ak (aF f.args 0)) 0]}else{s with ao:=q++[a.put f.dst (OI f.op (aF a.ak (aF f.args 0)) (aF a.ak (aF f.args 1))) 0]}) w:=by
 apply th (j,0) (g.D,g.off+q.length*6)
 simp -zeta only[aC,aB]
 intro y
 have ak:J m y:=(J.az m).aK _
 have s1:y.size=m.size+1:=by simp[y]
 let⟨K,t1⟩:=Y.ext ak
 have T:zi e y [m.size]:=λab C=>by simp at C;subst C;exact⟨V,Y.cQ.new _ (ad _)⟩
 clear_value y
 have X:=K.fp ⟨V,V,V⟩
 refine(uW X.g3 X.ak (ha.ext K.cQ.cy) aj V).mono ?_
 rintro _ l ⟨ws,rfl,ow,ai⟩
 let⟨A,t2⟩:=K.ext ai
 have I:=T.to t2
 have ax:(cL a f.args).length=f.args.length:=by simp[cL]
 have D:ap l ws (cL a f.args):=ap.gA ow V
 have ay:=D.len
 have ah:=t1.trans t2
 have S:∀{F:Nat},F<f.args.length->(cL a f.args)[F]? =some (aF a.ak (aF f.args F)):=λ{F} hk=>by
  let⟨z,hy⟩:=dB hk;simp[cL,hy,XN hy]
 have ag:∀{M:E}(hx:J l M)(H:Int),aN cp 103 [vp g.D (g.off+q.length*6),vi f.dst,vi H,vi 0] M λ_ w=>eG [m.size] M w/\DI t e m j d p c {s with ao:=q++[a.put f.dst H 0]} w:=λhx H=>by
  let⟨SM,tM⟩:=A.ext hx;refine(rf SM hd.1 V hd.2 H 0).mono ?_;rintro _ w ⟨S',t'⟩;exact⟨t'.dI (I.to tM),e,aT,b,g,S'.cQ,(ah.trans tM).trans t'⟩
 refine⟨t2.dI T,ws,rfl,λo=>?_,λn=>⟨λo=>?_,λN=>?_⟩⟩
 .simp at o;rw[an o];exact ag (J.az _) _
 .simp at n o
  rw[ae n,an o]
  have h1:=h5 o
  have au:(O.len aT)=s.aT.length:=by have:=A.cQ.aT.len;simp at this;omega
  refine⟨V,V,_,D.aF (k:=0) (S V),aT,A.cQ.box.cg 7,?_⟩
  intro G
  have B:J l G:=(J.az l).aK _
  have ju:fQ G l.size 0 [.i (aF a.ak (aF f.args ((0:Nat):Int)))]:=(cE.push l _ _).iB
  let⟨L,t3⟩:=A.ext B
  have U:=I.to t3
  clear_value G
  refine iG.append (zs:=[.i 0]) (x:=.mk l.size 0 1 1) (c:=[.i (aF a.ak (aF f.args 0))]) L.cQ.aT L.cQ.new rfl ju (by simp only[O.gF];omega) λaf P m4 q1 q2=>?_
  have am:iG af m4 aA 1 2 P ((s.aT++[aF a.ak (aF f.args 0)]).map Ce.i):=by simpa using q1
  let⟨Z,Q⟩:=L.Ib q2 am
  have W:=U.to Q
  refine⟨Q.dI U,Z.cQ.mw (i:=7) aL,?_⟩
  intro m5
  let⟨S5,R⟩:=Z.jw 7 [.s P]
  refine⟨R.dI W,(rf S5 hd.1 V hd.2 (aF a.ak (aF f.args 0)) 0).mono ?_⟩
  rintro _ m6 ⟨S6,t6⟩
  exact⟨t6.dI (W.to R),af,P,b,g,S6.cQ,(((ah.trans t3).trans Q).trans R).trans t6⟩
 .simp at n N
  rw[ae n,ae N]
  have h1:=h2 n N
  refine⟨V,V,_,D.aF (k:=0) (S V),V,V,_,D.aF (k:=1) (S V),?_⟩
  refine(Oz (ac n _ (fx V V)) (ac n _ (fx V V)) l).mono ?_
  rintro _ G ⟨rfl,B⟩
  exact⟨B.dv (λab C=>(I ab C).1),_,rfl,ag B _⟩
end
end
section
variable{b1 b2 b3 b k:Nat}{j:cO}{g:Int}{q:dy}{a:E}{e:List Int}
section
variable{y:E}{v:Nat->Nat}{u:E}{x:Nat}{d p aT z t:O}{c:Int}{s:St}{l:List aX}{f:aX}{r o h:O}{A:List (List Ce)}
def OA(S:ST y v u x bR (IB d p c s aT z t) aT z t s.aT s.heap l f r o h A){b:Instr}{m aD:O}(P:ap y m b.args)(ag:∀e∈b.args,0<=e/\e<f.ak.length)(au:1<=b.args.length/\b.args.length<=4)
 (aK:f.ak.length=f.aR.length/\f.ba.length=f.aR.length/\f.aR.length<=2000)(ay:s.heap.length<=1000000000)(aj:∀q∈f.aR,0<=q/\q<=999999)
 (az:fY s.heap (aF f.ak (aF b.args 0))){am:Nat->Int}(hI:fN s.heap am){R:Int}(ak:f.pc=R+1):
 aN cp 108 [vp x 0,vp t.D (t.off+l.length*6),xv b m aD] u λ_ a=>DI y v u x d p c (tn s l {f with pc:=R} b) a:=by
 apply vL (x,0) (t.D,t.off+l.length*6)
 simp -zeta only[aC,aB]
 intro L
 have aA:J u L:=(J.az u).aK _
 have s1:L.size=u.size+1:=by simp[L]
 let⟨N,t1⟩:=S.ext aA
 have B1:zi v L [u.size]:=λac G=>by simp at G;subst G;exact⟨V,S.cQ.new _ (ad _)⟩
 clear_value L
 have aP:r.len=f.ak.length:=by have:=S.fU.ak.len;simp at this;omega
 have aO:o.len=f.aR.length:=by have:=S.fU.aR.len;simp at this;omega
 have aJ:h.len=f.ba.length:=by have:=S.fU.ba.len;simp at this;omega
 have aG:=P.len
 have aE:=P.cap
 have F:0<=aF b.args 0/\aF b.args 0<f.ak.length:=ag _ (fx V V)
 have ga:∀{a},J y a->af a m.D (m.off+Int.toNat (0:Int)*1)=some (vi (aF b.args 0)):=λhx=>(P.ext hx).pA V V
 obtain⟨_,_,_,g3,_,_⟩:=N.fU.iB
 generalize hw:aF f.ak (aF b.args 0)=w at*
 refine⟨r,g3,V,V,_,ga N.cQ.cy,F.1,V,w,by rw[<-hw];exact(N.Ab V).pA F.1 F.2,(Dn N az (b.op==17) hI ay).mono ?_⟩
 rintro _ m2 ⟨ac,rfl,G,C,H,K,t2⟩
 have T:=B1.to t2
 have ar:(b.op==17)=true<->b.op=17:=aL
 rw[ar]at G
 have e1:Int.toNat (1:Int)=1:=rfl
 have e2:Int.toNat (m.len:Int)=m.len:=V
 have Z:∀{a},J y a->ap a (O.cut m 1 m.len 1) (b.args.drop 1):=λhx=>UJ (P.ext hx) au.1
 have aH:(O.cut m 1 m.len 1).len=b.args.length -1:=by have:=(Z (J.az y)).len;simp at this;omega
 have aI:(b.args.drop 1).length=b.args.length -1:=aL
 have ah:∀e∈b.args.drop 1,0<=e/\e<f.ak.length:=λe B=>ag e (wG B)
 rw[e1,e2]
 refine⟨t2.dI B1,ac,rfl,λax=>?_,λaw=>?_⟩
 .obtain⟨_,_,_,_,_,g5⟩:=K.fU.iB
  have Q:=G.1 ax
  refine⟨h,g5,V,V,_,ga K.cQ.cy,F.1,V,K.fU.ba.NQ F.1 V,?_⟩
  intro m3
  let⟨S3,t3⟩:=K.wX F.1 V w
  refine⟨t3.dI T,V,V,V,?_⟩
  refine dU (n:=(b.args.drop 1).length) V (λk a=>ST y C a x bR (IB d p c s aT H t) aT H t s.aT (rL s.heap w (b.op==17)) l {f with ba:=gR f.ba (aF b.args 0) w,aR:=dE f.aR ((b.args.drop 1).take k)} r o h A/\To v u C a/\zi C a [u.size]) ⟨by rw[List.take_zero];exact S3,(t1.trans t2).trans t3,(T.to t3)⟩ ?_
  rintro k m4 al μ hk ⟨g,M,I⟩ ab
  have aa:∀q∈dE f.aR ((b.args.drop 1).take k),0<=q/\q<=1000010:=λq hq=>by
   have:=qM _ f.aR 999999 V aj q hq;have h3:((b.args.drop 1).take k).length<=4:=bE;omega
  refine dit (λY=>?_) λY=>?_
  .let⟨e,B⟩:=cG (b.args.drop 1) k
   have j:=ah e (aq B)
   have D:e<(dE f.aR ((b.args.drop 1).take k)).length:=by rw[lM];omega
   have av:=Fo (i:=e) aa V
   have W:cT (aF (dE f.aR ((b.args.drop 1).take k)) e+1)=aF (dE f.aR ((b.args.drop 1).take k)) e+1:=aQ V V
   obtain⟨_,_,_,_,X,_⟩:=g.fU.iB
   refine⟨V,V,e,by simpa using(Z g.cQ.cy).aF B,o,X,j.1,V,_,(g.Jo (by simp only[lM];omega)).pA j.1 D,j.1,V,g.fU.aR.NQ j.1 D,?_⟩
   rw[W]
   intro m5
   let⟨U,E⟩:=g.pO j.1 D (aF (dE f.aR ((b.args.drop 1).take k)) e+1)
   refine⟨E.dI I,ab V _ ⟨?_,M.trans E,I.to E⟩⟩
   rw[aU B,sB];exact U
  .rw[bY V]at g
   refine⟨C,aT,H,t,?_,M⟩
   have:tn s l {f with pc:=R} b={s with heap:=rL s.heap w (b.op==17),ao:=l++[{f with ba:=gR f.ba (aF b.args 0) w,aR:=dE f.aR (b.args.drop 1)}]}:=by
    unfold tn;simp only[];rw[hw,an Q,rL,an (by simpa using Q),ak]
   rw[this];exact g.cQ
 .have ai:¬((aM s.heap w).aP=1/\b.op=17):=λQ=>by have:=G.2 Q;rw[aw]at this;simp at this
  refine⟨V,V,V,?_⟩
  refine dU (n:=(b.args.drop 1).length) V (λk a=>ST y C a x bR (IB d p c s aT H t) aT H t s.aT (rL s.heap w (b.op==17)) l {f with aR:=dE f.aR ((b.args.drop 1).take k)} r o h A/\To v u C a/\zi C a [u.size]) ⟨by simpa[dE]using K,t1.trans t2,T⟩ ?_
  rintro k m4 al μ hk ⟨g,M,I⟩ ab
  have aa:∀q∈dE f.aR ((b.args.drop 1).take k),0<=q/\q<=1000010:=λq hq=>by
   have:=qM _ f.aR 999999 V aj q hq;have h3:((b.args.drop 1).take k).length<=4:=bE;omega
  refine dit (λY=>?_) λY=>?_
  .let⟨e,B⟩:=cG (b.args.drop 1) k
   have j:=ah e (aq B)
   have D:e<(dE f.aR ((b.args.drop 1).take k)).length:=by rw[lM];omega
   have av:=Fo (i:=e) aa V
   have W:cT (aF (dE f.aR ((b.args.drop 1).take k)) e+1)=aF (dE f.aR ((b.args.drop 1).take k)) e+1:=aQ V V
   obtain⟨_,_,_,_,X,_⟩:=g.fU.iB
   refine⟨V,V,e,by simpa using(Z g.cQ.cy).aF B,o,X,j.1,V,_,(g.Jo (by simp only[lM];omega)).pA j.1 D,j.1,V,g.fU.aR.NQ j.1 D,?_⟩
   rw[W]
   intro m5
   let⟨U,E⟩:=g.pO j.1 D (aF (dE f.aR ((b.args.drop 1).take k)) e+1)
   refine⟨E.dI I,ab V _ ⟨?_,M.trans E,I.to E⟩⟩
   rw[aU B,sB];exact U
  .rw[bY V]at g
   refine⟨C,aT,H,t,?_,M⟩
   have:tn s l {f with pc:=R} b={s with heap:=rL s.heap w (b.op==17),ao:=l++[{f with aR:=dE f.aR (b.args.drop 1)}]}:=by
    unfold tn;simp only[];rw[hw,ae ai,rL,ae (by simpa using ai),ak]
   rw[this];exact g.cQ
def nG.none{v:Nat->Nat}{u:E}:nG v u .nil []:=⟨[],iG.gA (gW.nil u u _ _) (λa=>absurd rfl a),rfl,aL,aL⟩
def HH(S:ST y v u x bR (IB d p c s aT z t) aT z t s.aT s.heap l f r o h A)(ad:l.length<=100000)(w:Int)(U:∀g,l.getLast?=some g->0<=f.dst/\f.dst<g.ak.length/\f.dst<g.aR.length):
 aN cp 114 [vp x 0,vi w] u λ_ a=>DI y v u x d p c (match l.getLast? with|none=>{s with bV:=0,value:=w,ao:=[]}|some g=>{s with ao:=l.dropLast++[g.put f.dst w (gH w)]}) a:=by
 apply sF (x,0)
 simp -zeta only[aC,aB]
 have G:=S.fU.xO
 have aa:=S.fU.p7.le
 have B:cT ((t.len:Int) -1)=(l.length:Int):=by rw[aQ V V];omega
 have L:Int.toNat (l.length:Int)=l.length:=V
 have C:af u x 9=some (O.v t):=S.cQ.box.cg 9
 obtain⟨_,_,g2,_,_,_⟩:=S.fU.iB
 refine⟨t,C,t,C,?_⟩
 rw[B,L]
 refine⟨V,V,f.dst,g2,t,C,V,V,V,S.cQ.mw (i:=9) aL,?_⟩
 intro H
 let⟨q,t2⟩:=S.cQ.jw 9 [.s (t.cut 0 l.length 6)]
 obtain⟨b,_⟩:=q.jJ (dp.az _ q.new) (q.ao.UX)
 have ab:(t.cut 0 l.length 6).len=l.length:=by
  cases t with
  |nil=>simp at G
  |zC j I k=>simp at G
  |mk j I e c=>simp[O.cut]
 have e3:Int.toNat (0:Int)=0:=rfl
 refine⟨λD=>?_,λD=>?_⟩
 .have J:l=[]:=by simpa using D
  subst J
  refine⟨b.mw (i:=3) (by simp[kT]),?_⟩
  intro X
  let⟨j,t3⟩:=b.jw 3 [.i 0]
  refine⟨j.mw (i:=4) (by simp[kT]),?_⟩
  intro Y
  let⟨k,E⟩:=j.jw 4 [.i w]
  refine⟨k.mw (i:=9) (by simp[kT]),?_⟩
  intro K
  let⟨n,M⟩:=k.jw 9 [.s .nil]
  obtain⟨F,_⟩:=n.jJ (dp.az _ n.new) (nG.none (v:=v) (u:=K))
  exact⟨v,aT,z,.nil,F,((t2.trans t3).trans E).trans M⟩
 .have n:l≠[]:=by simpa using D
  have ae:l.length≠0:=λB=>n (List.length_eq_zero_iff.1 B)
  obtain⟨g,j⟩:∃g,l.getLast?=some g:=⟨_,gD n⟩
  let⟨P,Q,R⟩:=U g j
  rw[j]
  simp only[]
  have W:l=l.dropLast++[g]:=by
   rw[gD n]at j;simp at j;rw[<-j];exact(fq n).symm
  have k:vy y v H x bR (IB d p c s aT z (t.cut 0 l.length 6)) aT z (t.cut 0 l.length 6) s.aT s.heap (l.dropLast++[g]):=
   ⟨b.cy,b.jR,b.new,b.box,b.Qn,b.aT,b.heap,by rw[<-W];exact b.ao⟩
  let⟨r',I,h',Z,T⟩:=k.ao.fU
  have ac:l.dropLast.length=l.length -1:=aL
  have M:cT ((l.length:Int) -1)=((l.length -1:Nat):Int):=by rw[aQ V V];omega
  have N:Int.toNat ((l.length -1:Nat):Int)=l.dropLast.length:=V
  refine⟨t.cut 0 l.length 6,k.box.cg 9,?_⟩
  rw[M,N]
  refine⟨V,V,(mT w H).mono ?_⟩
  rintro _ X ⟨rfl,F⟩
  let⟨J,t3⟩:=(ST.mk k T).ext F
  refine⟨_,rfl,F.da (k.box.cg 9),(rf J P Q R w (gH w)).mono ?_⟩
  rintro _ Y ⟨K,E⟩
  exact⟨v,aT,z,_,K.cQ,(t2.trans t3).trans E⟩
end
def Yr{m M:E}(j:J m M){nb:Nat}(o:m.size<=nb)(t:nb<M.size)(b:Nat)(i:List Ce)
 (c:(b1=M.size\/b1=M.size+1\/b1=M.size+2)/\(b2=M.size\/b2=M.size+1\/b2=M.size+2)/\(b3=M.size\/b3=M.size+1\/b3=M.size+2)/\b1≠b2/\b1≠b3/\b2≠b3):
 qW m (ah (((M.push (.cells (bt (mH [.i (0:Int)] b)) 3)).push (.cells (bt (mH [.i (0:Int)] b)) 3)).push (.cells (bt (mH [.i (0:Int)] b)) 3)) nb 0 i) b1 b2 b3 b (dk b) (dk b) (dk b):=by
 rw[tR]
 generalize d:M.push (.cells (bt ((dk b).map Ce.i)) 3)=m2
 generalize e:m2.push (.cells (bt ((dk b).map Ce.i)) 3)=m3
 generalize f:m3.push (.cells (bt ((dk b).map Ce.i)) 3)=m4
 have k:m2.size=M.size+1:=by simp[<-d]
 have l:m3.size=M.size+2:=by simp[<-e,k]
 have u:m4.size=M.size+3:=by simp[<-f,l]
 have s:J M m2:=d▸J.push _ _
 have n:J m2 m3:=e▸J.push _ _
 have h:J m3 m4:=f▸J.push _ _
 have p:cE m4 M.size aA ((dk b).map Ce.i):=((d▸cE.push M _ _:cE m2 M.size aA ((dk b).map Ce.i)).ext n).ext h
 have q:cE m4 m2.size aA ((dk b).map Ce.i):=(e▸cE.push m2 _ _:cE m3 m2.size aA ((dk b).map Ce.i)).ext h
 have r:cE m4 m3.size aA ((dk b).map Ce.i):=f▸cE.push m3 _ _
 have g:∀a,(a=M.size\/a=M.size+1\/a=M.size+2)->cE (ah m4 nb 0 i) a aA ((dk b).map Ce.i):=λa c=>by
  have:cE m4 a aA ((dk b).map Ce.i):=by
   rcases c with rfl|rfl|rfl
   .exact p
   .rw[<-k];exact q
   .rw[<-l];exact r
  exact this.congr (bd _ _ _ _ V)
 exact⟨(j.trans ((s.trans n).trans h)).ah o _ _,by have:=j.size;rw[aw];omega,g _ c.1,g _ c.2.1,g _ c.2.2.1,by simp[kd]⟩
def HK{m:E}{d p:O}(f:fw m d p j)(o:0<=g)(h:j.cF[g.toNat]? =some q)(b:0<=q.ak/\q.ak<=2000)(e:Int):
 aN cp 83 [.agg #[O.v d,O.v p],vi g,vi e] m λv a=>∃b1 b2 b3,v=.agg #[vi g,vi 0,vi e,O.v (.mk b1 0 q.ak.toNat q.ak.toNat),O.v (.mk b2 0 q.ak.toNat q.ak.toNat),O.v (.mk b3 0 q.ak.toNat q.ak.toNat)]/\
  qW m a b1 b2 b3 q.ak.toNat (dk q.ak.toNat) (dk q.ak.toNat) (dk q.ak.toNat):=by
 apply Cj
 simp -zeta only[aC,aB]
 intro k c
 have i:J m c:=((J.az m).aK _).aK _
 have s:k.size=m.size+1:=by simp[k]
 have C:c.size=m.size+2:=by simp[c,s]
 have y:=f.cF.len
 have x:=av h
 clear_value c
 obtain⟨u,z,w,_,_,_,_,_,_,r,_⟩:=(f.ext i).cF.aF h
 refine⟨o,V,q.ak,r,⟨b.1,dg _,V,V,?_⟩,⟨b.1,dg _,V,V,?_⟩,⟨b.1,dg _,V,V,?_⟩⟩
 all_goals
  intro l
  refine⟨⟨b.1,dg _,V,V,?_⟩,⟨b.1,dg _,V,V,?_⟩⟩
  all_goals
   intro n
   refine⟨b.1,dg _,V,V,?_⟩
   intro A B
   have t:l.size=c.size+1:=by simp[l]
   have D:n.size=c.size+2:=by simp[n,t]
   exact⟨_,_,_,rfl,Yr i V V q.ak.toNat _ V⟩
def qW.Ag{d:E}{ak aR ba:List Int}(N:qW d a b1 b2 b3 b ak aR ba)(e:k<b)(v:Int):fK a b1 k 1/\qW d (ah a b1 k [.i v]) b1 b2 b3 b (ak.set k v) aR ba:=by
 have c:=N.lo;refine⟨N.kr.fK (by simp[N.len.1];omega),N.ext.ah c.1 _ _,by rw[aw];exact c,?_,N.ko.congr (bd _ _ _ _ V),N.kh.congr (bd _ _ _ _ V),by simp[N.len]⟩;have:=cE.ah (m:=a) (o:=k) (r:=[.i v]) N.kr;rw[Af]at this;exact this
def qW.pO{d:E}{ak aR ba:List Int}(N:qW d a b1 b2 b3 b ak aR ba)(e:k<b)(v:Int):fK a b2 k 1/\qW d (ah a b2 k [.i v]) b1 b2 b3 b ak (aR.set k v) ba:=by
 have c:=N.lo;refine⟨N.ko.fK (by simp[N.len.2.1];omega),N.ext.ah c.2.1 _ _,by rw[aw];exact c,N.kr.congr (bd _ _ _ _ V),?_,N.kh.congr (bd _ _ _ _ V),by simp[N.len]⟩;have:=cE.ah (m:=a) (o:=k) (r:=[.i v]) N.ko;rw[Af]at this;exact this
def xT(cR:List Int):∀(e r:List Int)(k:Nat),dL cR k (e++r)=dL cR k e++dL cR (k+e.length) r
 |[],r,k=>by simp[dL]
 |b::e,r,k=>by
  have:=xT cR e r (k+1);simp only[cZ,dL,this,aZ];have a:k+(e.length+1)=k+1+e.length:=V;rw[a]
def Mi{k:Nat}(h:k<b):dk (b -k)=0::dk (b -(k+1)):=by
 have:b -k=(b -(k+1))+1:=V;rw[this];rfl
def VD(h:e.length<b)(v:Int):(e++dk (b -e.length)).set e.length v=(e++[v])++dk (b -(e.length+1)):=by
 rw[Mi h];simp
def Ye(h:e.length<b):e++dk (b -e.length)=(e++[0])++dk (b -(e.length+1)):=by
 rw[Mi h];simp
section
variable{A:E}{t:Nat->Nat}{m:E}{z:Nat}{d p aT y v:O}{c:Int}{s:St}{u:List aX}{w:aX}{r o h:O}{B:List (List Ce)}
def FG(W:ST A t m z bR (IB d p c s aT y v) aT y v s.aT s.heap u w r o h B)(aP:fw A d p j)(am:0<=g)(Z:j.cF[g.toNat]? =some q)(aS:0<=q.ak/\q.ak<=2000){ws:O}{b:List Int}(hw:ap m ws b)(aV:b≠[]->t ws.D=0)(bb:(b.length:Int)<=q.ak)(U:Instr)(ab aX:O)
 (a6:u.length<=10000)(a4:0<=s.bu/\s.bu<=100000):
 aN cp 112 [vp z 0,vi g,O.v ws,xv U ab aX] m λ_ a=>DI A t m z d p c {s with bu:=s.bu+1,ao:=if U.op=24 then u++[bX j g w.dst b]else u++[w,bX j g U.dst b]} a:=by
 apply vK (z,0)
 simp -zeta only[aC,aB]
 intro R
 have aW:J m R:=(J.az m).aK _
 have s1:R.size=m.size+1:=by simp[R]
 let⟨S1,t1⟩:=W.ext aW
 have B1:zi t R [m.size]:=λC D=>by simp at D;subst D;exact⟨V,W.cQ.new _ (ad _)⟩
 clear_value R
 have a5:=W.fU.xO
 have a0:=W.fU.p7.le
 have e0:cT (s.bu+1)=s.bu+1:=aQ V V
 have aF:cT ((v.len:Int) -1)=(u.length:Int):=by rw[aQ V V];omega
 have e2:Int.toNat (u.length:Int)=u.length:=V
 refine⟨s.bu,S1.cQ.box.cg 5,S1.cQ.mw (i:=5) aL,?_⟩
 rw[e0]
 intro m2
 let⟨P,t2⟩:=S1.jw 5 [.i (s.bu+1)]
 replace P:ST A t m2 z bR (IB d p c {s with bu:=s.bu+1} aT y v) aT y v s.aT s.heap u w r o h B:=P
 replace t2:To t R t m2:=t2
 have B2:=B1.to t2
 have g9:af m2 z 9=some (O.v v):=P.cQ.box.cg 9
 obtain⟨_,_,g2,_,_,_⟩:=P.fU.iB
 refine⟨t2.dI B1,v,g9,?_⟩
 rw[aF,e2]
 clear_value m2
 have ay:=t1.trans t2
 refine⟨λI a=>∃K X,vy A t a z bR (IB d p c {s with bu:=s.bu+1} aT y X) aT y X s.aT s.heap K/\To t m t a/\zi t a [m.size]/\K.length<=10001/\(if U.op=24 then u++[bX j g w.dst b]else u++[w,bX j g U.dst b])=K++[bX j g I b],⟨λT=>?_,λT=>?_⟩,?_⟩
 .simp at T
  refine⟨v,g9,V,V,w.dst,g2,v,g9,V,V,V,P.cQ.mw (i:=9) aL,?_⟩
  intro Q
  let⟨G,t3⟩:=P.cQ.jw 9 [.s (v.cut 0 u.length 6)]
  obtain⟨k,_⟩:=G.jJ (dp.az _ G.new) (G.ao.UX)
  refine⟨t3.dI B2,u,v.cut 0 u.length 6,k,ay.trans t3,B2.to t3,V,?_⟩
  rw[an T]
 .simp at T
  refine⟨u++[w],v,P.cQ,ay,B2,bE,?_⟩
  rw[ae T];simp
 rintro I Q ⟨K,X,G,t3,B3,hX,aH⟩
 rw[aH]
 have ah:dO j g=q:=by simp[dO,Z]
 have ag:=aP.ext G.cy
 refine⟨d,G.box.cg 0,p,G.box.cg 1,(HK ag am Z aS I).mono ?_⟩
 rintro _ L ⟨b1,b2,b3,rfl,aa⟩
 have a7:=aa.lo
 have al:∀C∈[m.size],C<Q.size:=λC D=>(B3 C D).1
 have a9:m.size<Q.size:=al _ aL
 refine⟨aa.ext.dv al,_,_,_,_,_,_,rfl,?_⟩
 intro m5 m6
 have aG:J L m6:=((J.az L).aK _).ah (ad _) _ _
 have s6:m6.size=L.size+1:=by simp[m6,m5,aw]
 have N6:=aa.Se aG
 clear_value m6
 have ba:=hw.len
 have iw:∀{M},J Q M->ap M ws b:=λhx=>(iQ hw λk=>t3.eB _ (iF hw k) (by rw[aV k];decide)).ext hx
 obtain⟨pa,pl,pc,_,aO,_,_,k1,_,_,_⟩:=ag.cF.aF Z
 have a8:=av Z
 have a_:=ag.cF.len
 have aq:∀(k:Nat),(q.cR.any λF=>F==(k:Int))=true<->(k:Int)∈q.cR:=λk=>aL
 simp -zeta only[O.jB,O.mV,O.gF,bU]
 refine dU (n:=b.length) V (λk a=>qW Q a b1 b2 b3 q.ak.toNat (b.take k++dk (q.ak.toNat -k)) (dL q.cR 0 (b.take k)++dk (q.ak.toNat -k)) (dk q.ak.toNat)/\L.size<a.size) ⟨by simpa[dL]using N6,V⟩ ?_
 rintro k H aZ μ hk ⟨S,s7⟩ ar
 have tw:∀{ma mc:E},(∀C,C=L.size\/C=m.size->mc[C]? =ma[C]?)->eG [L.size,m.size] ma mc:=λhh C D=>hh C (by simpa using D)
 have tk:(b.take k).length=k:=bE
 have au:(dL q.cR 0 (b.take k)).length=k:=by rw[lU,tk]
 refine dit (λh1=>?_) λh1=>?_
 .let⟨F,hy⟩:=cG b k
  have ek:Int.toNat (k:Int)*1=k:=V
  have aj:k<q.ak.toNat:=V
  let⟨w8,N⟩:=S.Ag aj F
  have er:(b.take k++dk (q.ak.toNat -k)).set k F=b.take (k+1)++dk (q.ak.toNat -(k+1)):=by
   have:=VD (e:=b.take k) (b:=q.ak.toNat) V F;rw[tk]at this;rw[this,aU hy]
  rw[er]at N
  have eo:dL q.cR 0 (b.take (k+1))=dL q.cR 0 (b.take k)++[if q.cR.any (λF=>F==(k:Int))then 0 else gH F]:=by
   rw[aU hy,xT,tk];simp[dL]
  refine⟨V,V,F,by simpa using(iw S.ext).aF hy,V,V,?_⟩
  rw[ek]
  refine⟨w8,?_⟩
  intro m8
  have s8:m8.size=H.size:=aw _ _ _ _
  refine⟨tw λC D=>bd _ _ _ _ V,?_⟩
  replace N:qW Q m8 b1 b2 b3 q.ak.toNat (b.take (k+1)++dk (q.ak.toNat -(k+1))) (dL q.cR 0 (b.take k)++dk (q.ak.toNat -k)) (dk q.ak.toNat):=N
  clear_value m8
  refine⟨p,N.ext.af (G.box.cg 1),am,V,pl,N.ext.af k1,(lV (aO.ext N.ext) _).mono ?_⟩
  rintro _ m9 ⟨C,rfl,D,ac⟩
  have N9:=N.Se ac
  have s9:=ac.size
  refine⟨ac.dv bE,C,rfl,λaz=>?_,λax=>?_⟩
  .have aD:¬((k:Int)∈q.cR):=nb D az
   refine(mT F m9).mono ?_
   rintro _ aK ⟨rfl,Y⟩
   have aM:=Y.size
   let⟨aI,ai⟩:=(N9.Se Y).pO aj (gH F)
   have ak:(dL q.cR 0 (b.take k)++dk (q.ak.toNat -k)).set k (gH F)=dL q.cR 0 (b.take (k+1))++dk (q.ak.toNat -(k+1)):=by
    have:=VD (e:=dL q.cR 0 (b.take k)) (b:=q.ak.toNat) V (gH F);rw[au]at this;rw[this,eo,ae (λhh=>aD ((aq k).1 hh))]
   rw[ak]at ai
   refine⟨Y.dv bE,_,rfl,aJ (Y.same L.size V) 4,V,V,aI,?_⟩
   intro aE
   refine⟨tw λC D=>bd _ _ _ _ V,ar V _ ⟨ai,by simp only[aE,aw];omega⟩⟩
  .have Y:(k:Int)∈q.cR:=yb D ax
   refine ar V _ ⟨?_,V⟩
   have:=Ye (e:=dL q.cR 0 (b.take k)) (b:=q.ak.toNat) V
   rw[au]at this
   rw[eo,an ((aq k).2 Y),<-this];exact N9
 .have aR:k=b.length:=V
  subst aR
  rw[fu]at S
  have hc:dp (λ_=>False) t Q (pL t b1 b2 b3 K.length) H:=S.eI G.new
  let⟨a1,a2,a3⟩:=S.p7 (a:=t) (g:=K.length)
  let⟨F,t7⟩:=G.gB (hc.mono λ_=>False.elim) (G.heap.eI hc id id)
  have B7:zi (pL t b1 b2 b3 K.length) H [L.size,m.size]:=λC D=>by
   simp at D;refine⟨V,?_⟩;unfold pL;rw[eV V,eV V,eV V];rcases D with rfl|rfl
   .exact G.new _ V
   .exact(B3 _ aL).2
  refine⟨X,F.box.cg 9,?_⟩
  intro N
  have ac:J H N:=(J.az H).aK _
  have ju:fQ N H.size 0 [.i g,.i 0,.i I,.s (.mk b1 0 q.ak.toNat q.ak.toNat),.s (.mk b2 0 q.ak.toNat q.ak.toNat),.s (.mk b3 0 q.ak.toNat q.ak.toNat)]:=(cE.push H _ _).iB
  let⟨Y,az⟩:=F.ext ac
  have aj:=B7.to az
  clear_value N
  have ch:=λ{k:Nat}{s:O}{e:List Ce}(ab:iG (pL t b1 b2 b3 K.length) H aA 1 k s e)=>ab.eI (dp.eH (λ_=>False) ac F.new) id
  have aM:(bX j g I b).ak=b++dk (q.ak.toNat -b.length):=by simp[bX,ah]
  have aK:(bX j g I b).aR=dL q.cR 0 b++dk (q.ak.toNat -b.length):=by simp[bX,ah]
  have aI:(bX j g I b).ba=dk q.ak.toNat:=by simp[bX,ah]
  refine⟨ac.da (F.box.cg 9),nG.push Y.ao Y.new (x:=.mk H.size 0 1 1) rfl (a:=bX j g I b) ju (by rw[aM];exact ch a1) (by rw[aK];exact ch a2) (by rw[aI];exact ch a3) V λax qs aY q1 q2=>?_⟩
  have ai:To _ N ax aY:=q2.mono λk hk=>V
  let⟨ak,be⟩:=Y.jJ (q2.mono λk hk=>V) q1
  refine⟨ai.dI aj,ak.mw (i:=9) aL,?_⟩
  intro bc
  let⟨aE,aD⟩:=ak.jw 9 [.s qs]
  exact⟨aD.dI (aj.to ai),ax,aT,y,qs,aE,(((t3.trans t7).trans az).trans ai).trans aD⟩
end
end
section
def Me(ak:List Int):∀(b aR:List Int)(n:Int),(∀q∈aR,n<=q)->∀q∈bC ak aR b,n -b.length<=q
 |[],aR,n,h,q,c=>by have:=h q c;simp;omega
 |r::b,aR,n,h,q,c=>by
  have k:∀d,(∀q∈d,n -1<=q)->q∈bC ak d b->n -(r::b).length<=q:=λd j a=>by
   have:=Me ak b d (n -1) j q a;simp only[aZ];omega
  rw[bC]at c;refine k _ (λg a=>?_) c;split at a
  .rcases pG a with e|e
   .rcases aW r.toNat aR.length with f|f
    .let⟨y,i⟩:=dB f;have:=h y (aq i);rw[Hx i]at e;omega
    .have:gR aR r (aF aR r -1)=aR:=by unfold gR;exact rH f
     rw[this]at a;have:=h g a;omega
   .have:=h g e;omega
  .have:=h g a;omega
section
variable{q:E}{g:Nat->Nat}{m:E}{k:Nat}{d p aT j c:O}{a:St}{b:List aX}{f:aX}{r t h:O}{u:List (List Ce)}
def QQ{z:cO}{v:Instr}(C:zh z a b f v){aR:List Int}(aH:aR=bC f.ak f.aR (bT z v))(hM:ln z a f v aR)
 (aa:ST q g m k bR (IB d p (cr z) a aT j c) aT j c a.aT a.heap b f r t h u)(a9:fw q d p z){ak aV:O}(ha:ap q ak v.args)(hj:ap q aV v.eM)(cH:a.heap.length<=900000000)(cM:a.aT.length<=900000000):
 aN cp 60 [vp k 0,vp c.D (c.off+b.length*6),xv v ak aV] m λ_ Q=>DI q g m k d p (cr z) (fF z a b f v aR) Q:=by
 apply yw (k,0) (c.D,c.off+b.length*6)
 simp -zeta only[aC,aB]
 intro m1
 have co:J m m1:=(J.az m).aK _
 have s1:m1.size=m.size+1:=by simp[m1]
 let⟨S1,t1⟩:=aa.ext co
 have B1:zi g m1 [m.size]:=λP hb=>by simp at hb;subst hb;exact⟨V,aa.cQ.new _ (ad _)⟩
 clear_value m1
 have cI:=C.FY
 have cK:aR.length=f.aR.length:=by rw[aH];exact j7 _ _ _
 have cR:r.len=f.ak.length:=by have:=aa.fU.ak.len;simp at this;omega
 have cJ:t.len=f.aR.length:=by have:=aa.fU.aR.len;simp at this;omega
 have cy:=ha.len
 have bk:v.args.length<=4:=C.lx.1
 have cP:0<=f.pc/\f.pc<=100000:=by
  have cg:=C.F.pc;obtain⟨pq,_,ch,hP,_,_⟩:=C.I;rw[ch]at cg;have cQ:=hP.len;omega
 have e4:cT (f.pc+1)=f.pc+1:=aQ V V
 have cF:b.length<=1000:=by
  have bO:=C.ok.depth;have b_:=C.ok.bu;have cd:=C.ok.dV;rw[C.fr]at bO;simp at bO;omega
 refine(vI (a9.ext S1.cQ.cy) (S1.cQ.box.cg 1) C.call (ha.ext S1.cQ.cy) V C.lx.2.2.2.1).mono ?_
 rintro _ m2 ⟨ts,lt,rfl,ba,_,bg,b0,_⟩
 let⟨S2,t2⟩:=S1.ext bg
 have B2:=B1.to t2
 have cU:=IW z v
 have bp:=ba.len
 have b1:bT z v≠[]->g ts.D=0:=λac=>by
  rcases b0 with w|w|w
  .subst w;simp at bp;exact absurd (List.length_eq_zero_iff.1 bp.symm) ac
  .rw[w];refine aa.cQ.jR _ (iF ha λh0=>?_);let⟨R,B⟩:=Uo _ ac;have:=BY B;rw[h0]at this;simp at this
  .exact aa.cQ.new _ V
 refine⟨t2.dI B1,ts,lt,rfl,?_⟩
 refine dU (n:=(bT z v).length) V (λL Q=>ST q g Q k bR (IB d p (cr z) a aT j c) aT j c a.aT a.heap b {f with aR:=bC f.ak f.aR ((bT z v).take L)} r t h u/\To g m2 g Q) ⟨S2,dp.az _ S2.cQ.new⟩ ?_
 rintro L m3 b6 μ hk ⟨S3,t3⟩ bq
 have B3:=B2.to t3
 have cb:(bC f.ak f.aR ((bT z v).take L)).length=f.aR.length:=j7 _ _ _
 refine dit (λh1=>?_) λh1=>?_
 .let⟨R,B⟩:=cG (bT z v) L
  have A:=C.Kj R (aq B)
  obtain⟨_,_,_,G,I,_⟩:=S3.fU.iB
  have K:ap m3 ts (bT z v):=iQ ba λac=>t3.eB _ (iF ba ac) (by rw[b1 ac];decide)
  have F:bC f.ak f.aR ((bT z v).take (L+1))=if 1000<=aF f.ak R then gR (bC f.ak f.aR ((bT z v).take L)) R (aF (bC f.ak f.aR ((bT z v).take L)) R -1)else bC f.ak f.aR ((bT z v).take L):=by
   rw[aU B,uO];rfl
  refine⟨V,V,R,by simpa using K.aF B,r,G,A.1,V,_,(S3.Ab (by show f.ak.length<=_;omega)).pA A.1 A.2,λT=>?_,λT=>?_⟩
  .simp only[om,ar]at T
   have D:R<(bC f.ak f.aR ((bT z v).take L)).length:=V
   have M: -4<=aF (bC f.ak f.aR ((bT z v).take L)) R/\aF (bC f.ak f.aR ((bT z v).take L)) R<=999999:=by
    let⟨qq,aP,be⟩:=kY _ _ _ _ (oB A.1 D);have Y:=C.OG qq (aq aP);have h8:=Me f.ak ((bT z v).take L) f.aR 0 (λau hq=>(C.OG au hq).1) _ (fx A.1 D);have h9:((bT z v).take L).length<=4:=bE;omega
   have e5:cT (aF (bC f.ak f.aR ((bT z v).take L)) R -1)=aF (bC f.ak f.aR ((bT z v).take L)) R -1:=aQ V V
   refine⟨t,I,A.1,V,_,(S3.Jo (by show(bC _ _ _).length<=_;omega)).pA A.1 D,A.1,V,S3.fU.aR.NQ A.1 D,?_⟩
   rw[e5]
   intro H
   let⟨y,t4⟩:=S3.pO A.1 D (aF (bC f.ak f.aR ((bT z v).take L)) R -1)
   refine⟨t4.dI B3,bq V _ ⟨?_,t3.trans t4⟩⟩
   rw[F,an T];exact y
  .simp only[om,bL]at T
   refine bq V _ ⟨?_,t3⟩
   rw[F,ae T];exact S3
 rw[bY V,<-aH]at S3
 clear bq cb hk h1 b1 ba b0 bp
 obtain⟨_,g1,_,_,_,_⟩:=S3.fU.iB
 refine⟨f.pc,g1,S3.fU.U9,?_⟩
 rw[e4]
 intro H
 let⟨y,t4⟩:=S3.NM (f.pc+1)
 have K:zi g H [m.size]:=B3.to t4
 have b3:eG [m.size] m3 H:=t4.dI B3
 have Z:To g m g H:=((t1.trans t2).trans t3).trans t4
 clear t4
 replace y:ST q g H k bR (IB d p (cr z) a aT j c) aT j c a.aT a.heap b {f with aR:=aR,pc:=f.pc+1} r t h u:=y
 refine⟨b3,?_⟩
 clear b3 g1 S3 t3 B3 t2 B2 S2 bg b6 μ
 clear_value H
 have U:∀{M M':E},eG [m.size] M M'->∀am,af M' m.size am=af M m.size am:=λh am=>aJ (h _ aL) am
 have hd:=C.dst
 have bm:f.ak.length=aR.length/\f.ba.length=aR.length/\aR.length<=2000:=V
 have ay:1<=v.args.length->0<=aF v.args 0/\aF v.args 0<f.ak.length:=λh1=>C.arg _ (fx V V)
 have ga:∀{Q},J q Q->1<=v.args.length->af Q ak.D (ak.off+Int.toNat (0:Int)*1)=some (vi (aF v.args 0)):=λhx h1=>(ha.ext hx).pA V V
 have gr:∀{g m bx aT j c lo ax t h u own' pc'},ST q g m k bR bx aT j c lo ax b {f with aR:=own',pc:=pc'} r t h u->∀{am:Int},0<=am->am<f.ak.length->af m r.D (r.off+Int.toNat am*1)=some (vi (aF f.ak am)):=λaa am h0 h1=>(aa.Ab (by simp only[];omega)).pA h0 h1
 have ag:∀{g m bx aT j c lo ax t h u own' pc'},ST q g m k bR bx aT j c lo ax b {f with aR:=own',pc:=pc'} r t h u->af m c.D (c.off+b.length*6+3)=some (O.v r):=λaa=>aa.fU.iB.2.2.2.1
 have ct:∀r',r'∈v.args->aF f.ak r'<1000->gL (aF f.ak r'):=λr' cj aS=>by
  have bW:=C.arg r' cj;rcases C.F.RK _ (fx bW.1 bW.2)with T|T
  .exact T
  .omega
 obtain⟨pq,_,_,_,_,hI⟩:=C.I
 have al:=hI.op
 clear hI
 have bt:∀{bs:Nat->Nat}{bZ:O}{ax:List bM}{M:E}(SM:ST q bs M k bR (IB d p (cr z) {a with heap:=ax} aT bZ c) aT bZ c a.aT ax b {f with aR:=aR,pc:=f.pc+1} r t h u)(tM:To g m bs M)(BM:zi bs M [m.size])(F bb:Int)(s':St),s'={a with heap:=ax,ao:=b++[aX.put {f with aR:=aR,pc:=f.pc+1} v.dst F bb]}->
  aN cp 103 [vp c.D (c.off+b.length*6),vi v.dst,vi F,vi bb] M λ_ Q=>eG [m.size] M Q/\DI q g m k d p (cr z) s' Q:=λSM tM BM F bb s' w=>by
  refine(rf SM hd.1 (by show v.dst<f.ak.length;omega) (by show v.dst<aR.length;omega) F bb).mono ?_
  rintro _ Q ⟨S',t'⟩
  exact⟨t'.dI BM,_,aT,_,c,by rw[w];exact S'.cQ,tM.trans t'⟩
 have bf:∀{M:E}(hx:J H M)(X:Int)(s':St),s'={a with ao:=b++[{f with aR:=aR,pc:=X}]}->
  fK M c.D (c.off+b.length*6+1) 1/\eG [m.size] M (ah M c.D (c.off+b.length*6+1) [.i X])/\DI q g m k d p (cr z) s' (ah M c.D (c.off+b.length*6+1) [.i X]):=λhx X s' w=>by
  let⟨SM,tM⟩:=y.ext hx
  let⟨S',t'⟩:=SM.NM X
  exact⟨SM.fU.U9,t'.dI (K.to tM),g,aT,j,c,by rw[w];exact S'.cQ,(Z.trans tM).trans t'⟩
 refine⟨λw=>?_,λe0=>?_⟩
 .simp only[bQ,aG]at w
  refine(JD y ha C.arg bk w (λe5=>C.lx.2.1 (Or.inl e5)) (λe0 e5=>C.lx.2.2.1 V) (λe0 R B=>ct R B (hM.nJ V R B)) bm ⟨hd.1,by show v.dst<aR.length;omega⟩ V).mono ?_
  rintro _ W ⟨aE,aW,aD,aI,L5,B⟩
  refine⟨B.dI K,aE,aW,aD,aI,?_,Z.trans B⟩
  have:fF z a b f v aR=(if v.op=0 then{a with ao:=b++[aX.put {f with aR:=aR,pc:=f.pc+1} v.dst v.bP 0]}else if v.op=5 then{a with aT:=a.aT++[aF f.ak (aF v.args 0)],ao:=b++[aX.put {f with aR:=aR,pc:=f.pc+1} v.dst (aF f.ak (aF v.args 0)) 0]}else{a with ao:=b++[aX.put {f with aR:=aR,pc:=f.pc+1} v.dst (OI v.op (aF f.ak (aF v.args 0)) (aF f.ak (aF v.args 1))) 0]}):=by
   unfold fF;simp only[];by_cases A:v.op=0
   .rw[an A,an A]
   rw[ae A,ae A];by_cases D:v.op=5
   .rw[ae V,an D,an D]
   .rw[an V,ae D]
  rw[this];exact L5
 simp only[br,aj]at e0
 have bd:¬(v.op=1\/v.op=2\/v.op=3\/v.op=4):=V
 have cu:∀F∈f.ba,F≠0->1000<=F/\ix F<a.heap.length:=λF hw ac=>by
  obtain⟨h1,dd,ca,_⟩:=C.KZ F hw ac;exact⟨h1,av ca⟩
 refine⟨λw=>?_,λe6=>?_⟩
 .simp only[aG]at w
  have h6:=C.lx.2.2.2.2.1 w
  refine(FK y ha C.arg bk bm ⟨h6.1,h6.2.1⟩ V cu).mono ?_
  rintro _ W ⟨aE,aD,A,N,rfl,S,B,er,eo,ep,ec⟩
  refine⟨B.dI K,_,rfl,U (B.dI K) 1,(rf S hd.1 (by rw[er];show v.dst<f.ak.length;omega) (by rw[eo];show v.dst<aR.length;omega) (1000+A) 1).mono ?_⟩
  rintro _ D ⟨G,I⟩
  refine⟨I.dI (K.to B),aE,aT,aD,c,?_,(Z.trans B).trans I⟩
  have Y:=ec f.pc
  have ab:N.pc=f.pc+1:=ep
  have h8:({N with pc:=f.pc+1}:aX)=N:=by rw[<-ab]
  rw[h8]at Y
  have:fF z a b f v aR=nv a b {f with aR:=aR} v v.bP:=by
   unfold fF nv;simp only[];rw[ae V,ae bd,ae V,an w];rfl
  rw[this]
  have h9:nv a b {f with aR:=aR} v v.bP={a with heap:=jd a.heap A ⟨1,v.bP,cL f v.args⟩,ao:=b++[aX.put N v.dst (1000+A) 1]}:=Y
  rw[h9];exact G.cQ
 simp only[aj]at e6
 have F4:FP H c.D (c.off+b.length*6) {f with aR:=aR,pc:=f.pc+1} r t h:=y.fp ⟨by show f.ak.length<=_;omega,by show aR.length<=_;omega,by show f.ba.length<=_;omega⟩
 have b5:∀{bv:Value->E->Prop},(∀ws M,ap M ws (cL f v.args)->J H M->(cL f v.args≠[]->g ws.D=0)->bv (O.v ws) M)->aN cp 106 [vp c.D (c.off+b.length*6),O.v ak] H bv:=λhk=>by
  refine(uW F4.g3 F4.ak (ha.ext y.cQ.cy) C.arg V).mono ?_;rintro _ W ⟨ws,rfl,ow,ai⟩;have cn:(cL f v.args).length=v.args.length:=by simp[cL]
  have iw:ap W ws (cL f v.args):=ap.gA (l:=cL f v.args) ow V;refine hk ws W iw ai λac=>?_;rcases ow.D with w|w
  .subst w;have:=iw.len;simp at this;exact absurd (List.length_eq_zero_iff.1 this.symm) ac
  .exact y.cQ.new _ w
 have bg:(eS z.bo).length<=12:=by
  have:=qY C.ok.fy.nP.types z.bo.length;rw[mR _ _ (ad _)]at this;exact this
 have cA:0<=cr z/\cr z<=12:=by unfold cr;omega
 refine⟨λw=>?_,λbw=>?_⟩
 .simp only[aG]at w
  have ab:=C.lx.2.2.2.2.2.1 w
  refine⟨cr z,y.cQ.box.cg 2,b5 λws W iw ai _=>?_⟩
  let⟨S,B⟩:=y.ext ai
  have A:=K.to B
  have N:=B.dI K
  have Y:cT (cr z+v.bP)=cr z+v.bP:=aQ V V
  refine⟨N,ws,rfl,U N 2,ai.da (y.cQ.box.cg 2),U N 1,?_⟩
  rw[Y]
  refine(Dm S (cr z+v.bP) iw (by simp[cL];omega) V).mono ?_
  rintro _ D ⟨rfl,bz,bi,G,I⟩
  have aY:=I.dI A
  refine⟨aY,_,rfl,U aY 1,bt (bZ:=bi) (ax:=jd a.heap (dF a.heap) ⟨1,cr z+v.bP,cL f v.args⟩) G ((Z.trans B).trans I) (A.to I) _ _ _ ?_⟩
  unfold fF;simp only[];rw[ae V,ae bd,ae V,ae e6,an w]
 simp only[aj]at bw
 have MK:fF z a b f v aR=(
  if v.op=14 then{a with heap:=mQ a.heap (aF f.ak (aF v.args 0)),ao:=b++[{f with aR:=gR aR (aF v.args 0) (aF aR (aF v.args 0)+1),pc:=f.pc+1}]}
  else if v.op=15 then{a with heap:=ns (gZ a.heap [aF f.ak (aF v.args 0)]),ao:=b++[{f with aR:=aR,pc:=f.pc+1}]}
  else if v.op=16\/v.op=17 then tn a b {f with aR:=aR} v
  else if v.op=18 then{a with ao:=b++[aX.put {f with aR:=aR,pc:=f.pc+1} v.dst (aF f.ak (aF v.args 0)) (gH (aF f.ak (aF v.args 0)))]}
  else if v.op=19 then{a with ao:=b++[aX.put {f with aR:=aR,pc:=f.pc+1} v.dst (aF (aM a.heap (aF f.ak (aF v.args 0))).aE v.bP) 0]}
  else if v.op=20 then{a with ao:=b++[{f with aR:=aR,pc:=if aF f.ak (aF v.args 0)=0 then v.bP else f.pc+1}]}
  else if v.op=22 then{a with ao:=b++[{f with aR:=aR,pc:=v.bP}]}
  else if v.op=21 then{a with ao:=b++[{f with aR:=aR,pc:=aF v.eM (tf (cz z.bo v.bP) (aM a.heap (aF f.ak (aF v.args 0))).j9)}]}
  else if v.op=9\/v.op=24 then{a with bu:=a.bu+1,ao:=if v.op=24 then b++[bX z v.bP f.dst (cL f v.args)]else b++[{f with aR:=aR,pc:=f.pc+1},bX z v.bP v.dst (cL f v.args)]}
  else if v.op=11 then{a with bu:=a.bu+1,heap:=apart a.heap (aF f.ak (aF v.args 0)),ao:=b++[{f with aR:=aR,pc:=f.pc+1},bX z ((aM a.heap (aF f.ak (aF v.args 0))).j9 -cr z) v.dst ((aM a.heap (aF f.ak (aF v.args 0))).aE++[aF f.ak (aF v.args 1)])]}
  else match b.getLast? with|none=>{a with bV:=0,value:=aF f.ak (aF v.args 0),ao:=[]}|some aK=>{a with ao:=b.dropLast++[aK.put f.dst (aF f.ak (aF v.args 0)) (gH (aF f.ak (aF v.args 0)))]}):=by
  unfold fF
  simp only[]
  rw[ae V,ae bd,ae V,ae e6,ae bw]
  by_cases a0:v.op=14
  .rw[an a0,an a0]
  rw[ae a0,ae a0]
  by_cases a1:v.op=15
  .rw[an a1,an a1]
  rw[ae a1,ae a1]
  by_cases a2:v.op=16\/v.op=17
  .rw[an a2,an a2];rfl
  rw[ae a2,ae a2]
  by_cases a3:v.op=18
  .rw[an a3,an a3]
  rw[ae a3,ae a3]
  by_cases a4:v.op=19
  .rw[an a4,an a4]
  rw[ae a4,ae a4]
  by_cases a5:v.op=20
  .rw[an a5,an a5]
  rw[ae a5,ae a5]
  by_cases a6:v.op=21
  .rw[an a6,ae V,an a6]
  rw[ae a6]
  by_cases a7:v.op=22
  .rw[an a7,an a7]
  rw[ae a7,ae a7,ae a6]
  by_cases bc:v.op=9
  .rw[an bc,an (Or.inl bc),ae V]
  rw[ae bc]
  by_cases a8:v.op=24
  .rw[an a8,an (Or.inr a8),an a8]
  rw[ae a8,ae (show¬(v.op=9\/v.op=24)by omega)]
  by_cases aZ:v.op=11
  .rw[an aZ,an aZ]
  rw[ae aZ,ae aZ]
  cases b.getLast?<;>rfl
 rw[MK]
 clear MK
 refine⟨λw=>?_,λbA=>?_⟩
 .simp only[aG]at w
  rw[an w]
  have h2:=C.lx.2.1 V
  have A:=ay V
  let⟨ab,bB⟩:=hM.WM w
  let⟨Y,a_⟩:=bS ab
  have aS:=av Y
  have bn:=y.cQ.heap.len
  have bl:=ab.1
  have az:ix (aF f.ak (aF v.args 0))=(aF f.ak (aF v.args 0) -1000).toNat:=rfl
  have e5:cT (aF f.ak (aF v.args 0) -1000)=aF f.ak (aF v.args 0) -1000:=aQ V V
  have bj:cT ((aM a.heap (aF f.ak (aF v.args 0))).aP+1)=(aM a.heap (aF f.ak (aF v.args 0))).aP+1:=aQ V V
  obtain⟨f0,k0,_⟩:=y.cQ.heap.cg Y
  refine⟨j,y.cQ.box.cg 8,r,ag y,V,V,_,ga y.cQ.cy V,A.1,V,_,gr y A.1 A.2,?_⟩
  rw[e5,<-az]
  refine⟨V,V,_,k0,V,V,y.cQ.heap.wr (o:=0) aS bh,?_⟩
  rw[bj]
  intro W
  let⟨bo,c5⟩:=y.cQ.heap.rp y.cQ.new Y ((aM a.heap (aF f.ak (aF v.args 0))).aP+1)
  let⟨S,B⟩:=y.gB (c5.mono λL hk=>Or.inl hk) bo
  have aO:aF v.args 0<aR.length:=V
  have bD:0<=aF aR (aF v.args 0)/\aF aR (aF v.args 0)<=999999:=by
   refine⟨hM.nn _ (fx (l:=aR) A.1 aO),?_⟩;have hg:=oB (l:=aR) A.1 aO;rw[aH]at hg;let⟨qq,aP,be⟩:=kY _ _ _ _ hg;have:=(C.OG qq (aq aP)).2;rw[<-aH]at be;omega
  have e7:cT (aF aR (aF v.args 0)+1)=aF aR (aF v.args 0)+1:=aQ V V
  refine⟨B.dI K,t,S.fU.iB.2.2.2.2.1,V,V,_,ga S.cQ.cy V,A.1,V,aF aR (aF v.args 0),(S.Jo (by show aR.length<=_;omega)).pA A.1 aO,A.1,V,S.fU.aR.NQ A.1 aO,?_⟩
  rw[e7]
  intro D
  let⟨G,I⟩:=S.pO A.1 aO (aF aR (aF v.args 0)+1)
  exact⟨I.dI (K.to B),g,aT,j,c,G.cQ,(Z.trans B).trans I⟩
 simp only[aj]at bA
 rw[ae bA]
 refine⟨λw=>?_,λbB=>?_⟩
 .simp only[aG]at w
  rw[an w]
  have h2:=C.lx.2.1 V
  have A:=ay V
  have bD:v.args=[aF v.args 0]:=by
   cases hx:v.args with
   |nil=>rw[hx]at h2;simp at h2
   |cons R aO=>cases aO with
    |nil=>rfl
    |cons bj aO=>rw[hx]at h2;simp at h2
  have bj:=C.HE aH hM.nn
  have ht:bT z v=[aF v.args 0]:=by unfold bT;rw[an V];exact bD
  have bo:=bj.1
  rw[ht]at bo
  refine⟨j,y.cQ.box.cg 8,?_⟩
  intro W D
  let⟨G,I,kb⟩:=y.Oy
  have R:zi (od g H.size 5) D [m.size]:=K.to I
  replace G:ST q (od g H.size 5) D k bR (IB d p (cr z) a aT j c) aT j c a.aT a.heap b {f with aR:=aR,pc:=f.pc+1} r t h u:=G
  replace I:To g H (od g H.size 5) D:=I
  replace kb:cE D H.size eD [.s j]:=kb
  clear_value D
  refine⟨r,ag G,V,V,_,ga G.cQ.cy V,A.1,V,_,gr G A.1 A.2,(FL G.cQ.heap G.cQ.new kb (fI _ _ _) (W:=λP=>fA b P+de f.ak aR P) (bo.congr λP=>rfl) bj.2 V).mono ?_⟩
  rintro _ m7 ⟨bH,aO,bF,bG,c7⟩
  let⟨S7,t7⟩:=G.gB c7 bF
  refine⟨t7.dI R,aO,bG.cg 0,S7.cQ.mw (i:=8) aL,?_⟩
  intro m8
  let⟨S8,t8⟩:=S7.jw 8 [.s aO]
  exact⟨t8.dI (R.to t7),bH,aT,aO,c,S8.cQ,((Z.trans I).trans t7).trans t8⟩
 simp only[aj]at bB
 rw[ae bB]
 refine⟨λw=>?_,λb7=>?_⟩
 .simp only[bQ,aG]at w
  rw[an w]
  refine(OA y ha C.arg ⟨C.lx.2.2.2.1 w,bk⟩ bm V (λau hq=>?_) (hM.NA w).1 C.ok.heap (show f.pc+1=f.pc+1 from rfl)).mono ?_
  .refine⟨hM.nn au hq,?_⟩
   let⟨L,hk⟩:=List.mem_iff_getElem?.1 hq
   simp only[]at hk
   rw[aH]at hk
   let⟨qq,aP,be⟩:=kY _ _ _ _ hk
   have:=(C.OG qq (aq aP)).2
   omega
  rintro _ W ⟨aE,aW,aD,aI,L5,B⟩
  exact⟨B.dI K,aE,aW,aD,aI,L5,Z.trans B⟩
 simp only[br,aj]at b7
 rw[ae V]
 refine⟨λw=>?_,λbD=>?_⟩
 .simp only[aG]at w
  rw[an w]
  have h2:=C.lx.2.1 V
  have A:=ay V
  refine⟨r,ag y,V,V,_,ga y.cQ.cy V,A.1,V,_,gr y A.1 A.2,(mT _ _).mono ?_⟩
  rintro _ W ⟨rfl,ai⟩
  let⟨S,B⟩:=y.ext ai
  have N:=B.dI K
  exact⟨N,_,rfl,U N 1,bt (ax:=a.heap) S (Z.trans B) (K.to B) _ _ _ rfl⟩
 simp only[aj]at bD
 rw[ae bD]
 refine⟨λw=>?_,λbF=>?_⟩
 .simp only[aG]at w
  rw[an w]
  have h2:=C.lx.2.1 V
  have A:=ay V
  let⟨ab,aO⟩:=hM.load w
  let⟨Y,a_⟩:=bS ab
  have aS:=av Y
  have bn:=y.cQ.heap.len
  have bl:=ab.1
  have az:ix (aF f.ak (aF v.args 0))=(aF f.ak (aF v.args 0) -1000).toNat:=rfl
  have e5:cT (aF f.ak (aF v.args 0) -1000)=aF f.ak (aF v.args 0) -1000:=aQ V V
  obtain⟨f0,_,_,k2,kf,_⟩:=y.cQ.heap.cg Y
  have aP:=kf.len
  unfold me at al
  rw[ae V,ae V,ae V,ae V,ae V,ae V,ae V,an w]at al
  refine⟨j,y.cQ.box.cg 8,r,ag y,V,V,_,ga y.cQ.cy V,A.1,V,_,gr y A.1 A.2,?_⟩
  rw[e5,<-az]
  exact⟨V,V,f0,k2,al.2.1,V,_,kf.pA al.2.1 aO,bt (ax:=a.heap) y Z K _ _ _ rfl⟩
 simp only[aj]at bF
 rw[ae bF]
 refine⟨λw=>?_,λbG=>?_⟩
 .simp only[aG]at w
  rw[an w]
  have h2:=C.lx.2.1 V
  have A:=ay V
  refine⟨r,ag y,V,V,_,ga y.cQ.cy V,A.1,V,_,gr y A.1 A.2,λT=>?_,λT=>?_⟩
  .simp at T;exact bf (J.az _) _ _ (by rw[an T])
  .simp at T;exact⟨g,aT,j,c,by rw[ae T];exact y.cQ,Z⟩
 simp only[aj]at bG
 rw[ae bG]
 refine⟨λw=>?_,λbI=>?_⟩
 .simp only[aG]at w
  rw[an w]
  exact bf (J.az _) _ _ rfl
 simp only[aj]at bI
 rw[ae bI]
 refine⟨λw=>?_,λbH=>?_⟩
 .simp only[aG]at w
  rw[an w]
  have h2:=C.lx.2.1 V
  have A:=ay V
  let⟨ab,bo⟩:=hM.Fb w
  let⟨Y,a_⟩:=bS ab
  have aS:=av Y
  have bn:=y.cQ.heap.len
  have bl:=ab.1
  have az:ix (aF f.ak (aF v.args 0))=(aF f.ak (aF v.args 0) -1000).toNat:=rfl
  have e5:cT (aF f.ak (aF v.args 0) -1000)=aF f.ak (aF v.args 0) -1000:=aQ V V
  obtain⟨f0,_,k1,_⟩:=y.cQ.heap.cg Y
  unfold me at al
  rw[ae V,ae V,ae V,ae V,ae V,ae V,ae V,ae V,ae V,ae V,an w]at al
  have bK:tf (cz z.bo v.bP) (aM a.heap (aF f.ak (aF v.args 0))).j9<(cz z.bo v.bP).length:=tT ⟨_,bo,aL⟩
  have bP:=hj.len
  have bN:=al.2.2.1
  refine⟨j,y.cQ.box.cg 8,r,ag y,V,V,_,ga y.cQ.cy V,A.1,V,_,gr y A.1 A.2,?_⟩
  rw[e5,<-az]
  refine⟨V,V,_,k1,d,y.cQ.box.cg 0,(tg (a9.ext y.cQ.cy).bo C.ok.fy.nP.types v.bP).mono ?_⟩
  rintro _ W ⟨cs,rfl,bJ,ai⟩
  let⟨S,B⟩:=y.ext ai
  have N:=B.dI K
  refine⟨N,cs,rfl,U N 5,(sa bJ _).mono ?_⟩
  rintro _ D ⟨ri,rfl,aO,be⟩
  let⟨G,I⟩:=S.ext aO
  have aY:=I.dI (K.to B)
  have bj:ri=tf (cz z.bo v.bP) (aM a.heap (aF f.ak (aF v.args 0))).j9:=by
   rcases be with⟨_,aP⟩|⟨_,he⟩
   .exact absurd bo aP
   .exact he
  subst bj
  exact⟨aY,_,rfl,U aY 5,V,V,_,(hj.ext G.cQ.cy).pA V V,bf (ai.trans aO) _ _ rfl⟩
 simp only[aj]at bH
 rw[ae bH]
 have bN:0<=a.bu/\a.bu<=100000:=by
  have b_:=C.ok.bu;have cd:=C.ok.dV;omega
 have aY:=C.ok.fy
 refine⟨λw=>?_,λe9=>?_⟩
 .simp only[bQ,aG]at w
  rw[an w]
  unfold me at al
  rw[ae V,ae V,ae V,ae V,an w]at al
  let⟨au,be,aO,bK⟩:=al
  have ck:=(aY.dz au (aq aO)).ak
  have h3:=(aY.nP.dz au (aq aO)).1
  have cn:(cL f v.args).length=v.args.length:=by simp[cL]
  refine b5 λws W iw ai bj=>?_
  let⟨S,B⟩:=y.ext ai
  have N:=B.dI K
  refine⟨N,ws,rfl,U N 0,U N 1,U N 2,U N 3,U N 4,U N 5,U N 2,(FG S a9 be aO V iw bj V v ak aV V bN).mono ?_⟩
  rintro _ D ⟨bz,bJ,bi,aP,L6,I⟩
  exact⟨I.dI (K.to B),bz,bJ,bi,aP,L6,(Z.trans B).trans I⟩
 simp only[br,aj]at e9
 rw[ae V]
 refine⟨λw=>?_,λbz=>?_⟩
 .simp only[aG]at w
  rw[an w]
  have h2:=C.lx.2.2.1 V
  have A:=ay V
  have bj:0<=aF v.args 1/\aF v.args 1<f.ak.length:=C.arg _ (fx V V)
  let⟨ab,cm,cS,cf,cc,cC⟩:=hM.apply w
  let⟨Y,a_⟩:=bS ab
  have bK:=C.ok.heap.cell _ (aq Y)
  have cD:=bK.fl
  have bo:=(bK.oP a_).2
  have aS:=av Y
  have bn:=y.cQ.heap.len
  have bl:=ab.1
  have az:ix (aF f.ak (aF v.args 0))=(aF f.ak (aF v.args 0) -1000).toNat:=rfl
  have e5:cT (aF f.ak (aF v.args 0) -1000)=aF f.ak (aF v.args 0) -1000:=aQ V V
  let⟨f0,k0,k1,k2,kf,kr⟩:=y.cQ.heap.cg Y
  refine⟨r,ag y,V,V,_,ga y.cQ.cy V,A.1,V,_,gr y A.1 A.2,j,y.cQ.box.cg 8,?_⟩
  rw[e5,<-az]
  generalize hw:aF f.ak (aF v.args 0)=F at*
  have gv:∀{g m bx aT j c lo ax t h u own' pc'},ST q g m k bR bx aT j c lo ax b {f with aR:=own',pc:=pc'} r t h u->af m r.D (r.off+Int.toNat (aF v.args 1)*1)=some (vi (aF f.ak (aF v.args 1))):=λaa=>gr aa bj.1 bj.2
  generalize hv:aF f.ak (aF v.args 1)=X at*
  let⟨au,hq⟩:=cG z.cF (((aM a.heap F).j9 -cr z).toNat)
  have ci:dO z ((aM a.heap F).j9 -cr z)=au:=by simp[dO,hq]
  rw[ci]at cf cc
  have ck:=(aY.dz au (aq hq)).ak
  have h3:=(aY.nP.dz au (aq hq)).1
  refine⟨V,V,_,k0,_,k1,f0,k2,?_⟩
  intro W D
  have bi:J H D:=((J.az H).aK _).ah (ad _) _ _
  have s6:D.size=H.size+1:=by simp[D,W,aw]
  let⟨G,I⟩:=y.ext bi
  clear_value D
  have R:zi g D [H.size,m.size]:=λP hb=>by
   simp at hb;rcases hb with rfl|rfl
   .exact⟨V,y.cQ.new _ (ad _)⟩
   .exact K.to I _ aL
  have be:∀{M},J D M->af M ak.D (ak.off+Int.toNat (1:Int)*1)=some (vi (aF v.args 1)):=λhx=>(ha.ext (G.cQ.cy.trans hx)).pA V V
  have ew:cT ((aM a.heap F).j9 -cr z)=(aM a.heap F).j9 -cr z:=aQ V V
  have tail:∀{M:E}{es:O},J D M->gW D M aA 1 es (((aM a.heap F).aE++[X]).map Ce.i)->
   aN cp 113 [vp k 0,vi F,vb false] M λcw Q=>eG [H.size,m.size] M Q/\∃cv:Bool,cw=vb cv/\∃b4:Int,af Q k (0+2)=some (vi b4)/\
    aN cp 112 [vp k 0,vi (cT ((aM a.heap F).j9 -b4)),O.v es,xv v ak aV] Q λ_ b2=>eG [H.size,m.size] Q b2/\DI q g m k d p (cr z) {a with bu:=a.bu+1,heap:=apart a.heap F,ao:=b++[{f with aR:=aR,pc:=f.pc+1},bX z ((aM a.heap F).j9 -cr z) v.dst ((aM a.heap F).aE++[X])]} b2:=λ{M}{es} hx oe=>by
   let⟨SM,tM⟩:=G.ext hx
   have BM:=R.to tM
   have ie:ap M es ((aM a.heap F).aE++[X]):=ap.gA oe bE
   have bU:es.D<M.size:=iF ie aL
   have bP:g es.D=0:=by
    rcases oe.D with w|w
    .subst w;have:=ie.len;simp at this
    .exact G.cQ.new _ w
   refine(Dn SM ab false C.ok.heap V).mono ?_
   rintro _ m8 ⟨P,rfl,_,cV,cN,S8,t8⟩
   have hK:rL a.heap F false=apart a.heap F:=by rw[rL,ae (sx)]
   rw[hK]at S8
   have cq:ap m8 es ((aM a.heap F).aE++[X]):=iQ ie λ_=>t8.eB _ bU (by rw[bP];decide)
   refine⟨t8.dI BM,P,rfl,cr z,S8.cQ.box.cg 2,?_⟩
   rw[ew]
   refine(FG (s:={a with heap:=apart a.heap F}) S8 a9 cm hq V cq (λ_=>by rw[t8.gU _ bU];exact bP) bE v ak aV V bN).mono ?_
   rintro _ m9 ⟨cx,cs,ce,b8,L9,t9⟩
   refine⟨t9.dI (BM.to t8),cx,cs,ce,b8,?_,(((Z.trans I).trans tM).trans t8).trans t9⟩
   rw[ae V]at L9
   exact L9
  refine⟨r,ag G,V,V,_,be (J.az _),bj.1,V,X,gv G,?_,?_⟩
  .refine(eN (kf.ext bi) V).mono ?_
   rintro _ m7 ⟨cl,rfl,oc,N⟩
   let⟨S7,t7⟩:=G.ext N
   have B7:=R.to t7
   refine⟨t7.dI R,cl,rfl,N.da (gv G),N.da (be (J.az _)),aJ (N.same m.size (R _ aL).1) 4,N.da (ag G),?_⟩
   intro m8
   have S:J m7 m8:=(J.az m7).aK _
   refine⟨aJ (S.same H.size (B7 _ aL).1) 2,nN oc N V λes m9 o9 aO=>⟨?_,tail aO o9⟩⟩
   intro P hb
   have aP:=(R P hb).1
   rw[aO.same P aP,S.same P (oh N.size),N.same P aP]
  .intro m7
   have N:J D m7:=(J.az D).aK _
   have s7:m7.size=D.size+1:=by simp[m7]
   have ju:fQ m7 D.size 0 [.i X]:=(cE.push D _ _).iB
   have b9:cE m7 D.size aA [.i X]:=cE.push D _ _
   clear_value m7
   let⟨S7,t7⟩:=G.ext N
   have B7:=R.to t7
   refine⟨aJ (N.same H.size (R _ aL).1) 2,(eN (kf.ext (bi.trans N)) V).mono ?_⟩
   rintro _ m8 ⟨cl,rfl,oc,S⟩
   let⟨S8,t8⟩:=S7.ext S
   have cB:cl.len=(aM a.heap F).aE.length:=by have:=oc.len;simp at this;omega
   refine⟨t8.dI B7,cl,rfl,S.da (gv S7),S.da (be N),aJ (S.same m.size (B7 _ aL).1) 4,S.da (ag S7),?_⟩
   have bJ:=N.trans S
   refine gW.append (zs:=[.i 0]) (x:=.mk D.size 0 1 1) (d:=[.i X]) (oc.cy V) bJ rfl (b9.ext S).iB (by simp only[O.gF];omega) λes m9 o9 aO _ _ _ _=>⟨?_,tail aO (by simpa using o9)⟩
   intro P hb
   have aP:=(R P hb).1
   rw[aO.same P aP,bJ.same P aP]
 simp only[aj]at bz
 rw[ae bz]
 refine⟨λw=>?_,λI=>?_⟩
 .simp only[aG]at w
  have h2:=C.lx.2.1 V
  have A:=ay V
  refine⟨r,ag y,V,V,_,ga y.cQ.cy V,A.1,V,_,gr y A.1 A.2,(HH y V (aF f.ak (aF v.args 0)) (λaK hg=>?_)).mono ?_⟩
  .have ac:b≠[]:=λw=>by rw[w]at hg;simp at hg
   have D:b=b.dropLast++[aK]:=by
    rw[gD ac]at hg;simp at hg;rw[<-hg];exact(fq ac).symm
   have N:b.length=b.dropLast.length+1:=by
    have:=nU List.length D;simpa using this
   let⟨R,S,Y⟩:=C.ok.chain b.dropLast.length aK f (by rw[C.fr,D];simp) (by rw[C.fr,<-N];simp)
   have G:=C.ok.ao aK (by rw[C.fr,D];simp)
   have:=G.lr
   have:=G.lo
   exact⟨R,by show f.dst<_;omega,by show f.dst<_;omega⟩
  rintro _ W ⟨aE,aW,aD,aI,L5,B⟩
  exact⟨B.dI K,aE,aW,aD,aI,L5,Z.trans B⟩
 simp only[aj]at I
 have:=C.Ze
 omega
end
end
section
section
variable{f:E}{e:Nat->Nat}{m:E}{b:Nat}{d p aT c a:O}{s:St}
def OB{h:cO}(L:vy f e m b bR (IB d p (cr h) s aT c a) aT c a s.aT s.heap s.ao)(z:fw f d p h)(u:cY h s)(av:∀t∈s.ao,∀w∈t.ak,w<=9223372036854775807)(ay:s.heap.length<=900000000)(aD:s.aT.length<=900000000):
 aN cp 33 [vp b 0] m λ_ I=>DI f e m b d p (cr h) (kD h s) I:=by
 apply vM (b,0)
 simp -zeta only[aC,aB]
 refine⟨s.bV,L.box.cg 3,λy=>?_,λy=>?_⟩
 .simp at y
  rw[pT y]
  exact⟨e,aT,c,a,L,dp.az _ L.new⟩
 have G:s.bV=3:=by simpa using y
 let⟨k,g,r⟩:=u.split G
 have az:s.ao.getLast?=some g:=by rw[r];simp
 have au:s.ao.dropLast=k:=by rw[r];simp
 have C:zh h s k g (ez h g):=⟨u,G,r,rfl,av⟩
 have aH:kD h s=(open Classical in if mU (ez h g).op/\s.bu=s.dV then{s with bV:=1}else if ln h s g (ez h g) (bC g.ak g.aR (bT h (ez h g)))then fF h s k g (ez h g) (bC g.ak g.aR (bT h (ez h g)))else{s with bV:=2}):=by
  unfold kD;rw[ae (by simpa using G),az,au]
 rw[aH]
 generalize ez h g=x at*
 have N:vy f e m b bR (IB d p (cr h) s aT c a) aT c a s.aT s.heap (k++[g]):=by rw[<-r];exact L
 let⟨aj,ai,W,ak,T⟩:=N.ao.fU
 have S:ST f e m b bR (IB d p (cr h) s aT c a) aT c a s.aT s.heap k g aj ai W ak:=⟨N,T⟩
 have aO:=T.xO
 have ab:=u.depth
 have aM:=u.bu
 have aS:=u.dV
 rw[r]at ab
 have aP:k.length<=1000:=by simp at ab;omega
 have e1:cT ((a.len:Int) -1)=(k.length:Int):=by rw[aQ V V];omega
 have e2:Int.toNat (k.length:Int)=k.length:=V
 have U:af m b 9=some (O.v a):=S.cQ.box.cg 9
 obtain⟨R,g1,_,_,_,_⟩:=T.iB
 let⟨aY,hq,aF,hP,aq,hI⟩:=C.I
 let⟨pa,pl,pc,aU,aW,ag,k0,k1,k2,k3,k4⟩:=z.cF.aF hq
 let⟨F,H,Y,hj,i0,i1,i2,i3,i4,i5⟩:=ag.aF aq
 have aX:=z.cF.len
 have aV:=ag.len
 have X:=C.F
 have aE:=X.fE
 have ac:=X.pc
 rw[aF]at ac
 have l:=S.cQ.cy
 refine⟨a,U,a,U,?_⟩
 rw[e1,e2]
 refine⟨V,V,p,S.cQ.box.cg 1,_,R,aE.1,V,pc,l.af k4,_,g1,ac.1,V,_,l.af i0,_,l.af i1,_,l.af i2,_,l.af i3,F,l.af i4,H,l.af i5,?_⟩
 intro m1
 have o:J m m1:=(J.az m).aK _
 refine⟨o.da (l.af i0),o.da (l.af i1),o.da (l.af i2),o.da (l.af i3),o.da (l.af i4),o.da (l.af i5),o.da g1,o.da (l.af k4),o.da R,o.da (S.cQ.box.cg 1),?_⟩
 intro n
 have aI:J m n:=o.ah (ad _) _ _
 have s2:n.size=m.size+1:=by simp[n,m1,aw]
 let⟨j,t2⟩:=S.ext aI
 have A:zi e n [m.size]:=λP l=>by simp at l;subst l;exact⟨V,S.cQ.new _ (ad _)⟩
 clear_value n
 have aR:=C.FY
 have aG:({s with ao:=k++[g]}:St)=s:=by rw[<-r]
 have ax:jy n a (k++[g]):=j.cQ.ao.Ec bE (λt w=>by
  have q:=u.ao t (by rw[r];exact w);obtain⟨Q,_,B,v,_⟩:=q.Jf u.fy;have D:=q.lr;have K:=q.lo;have M:=q.lh;rw[B]at D K M;have:=v.ak;omega)
 have am:RV n b 3 d p aT c a h s:=by
  have:RV n b 3 d p aT c a h {s with ao:=k++[g]}:=⟨z.ext j.cQ.cy,j.cQ.box.cg 0,j.cQ.box.cg 1,j.cQ.box.cg 3,j.cQ.box.cg 4,j.cQ.box.cg 5,j.cQ.box.cg 6,j.cQ.box.cg 7,j.cQ.box.cg 8,j.cQ.box.cg 9,j.cQ.aT.nJ V,j.cQ.heap.cells V,ax⟩;rw[aG]at this;exact this
 have F2:FP n a.D (a.off+k.length*6) g aj ai W:=j.fp ⟨V,V,V⟩
 have jN:¬(mU x.op/\s.bu=s.dV)->aN cp 59 [vp b 0,vp a.D (a.off+k.length*6),xv x F H] n λaJ v=>
  eG [m.size] n v/\∃K:Bool,aJ=vb K/\
  ((!K)=true->fK v b (0+3) 1/\let q:E:=ah v b (0+3) [.i (2:Int)]
   eG [m.size] v q/\DI f e m b d p (cr h) (open Classical in if mU x.op/\s.bu=s.dV then{s with bV:=1}else if ln h s g x (bC g.ak g.aR (bT h x))then fF h s k g x (bC g.ak g.aR (bT h x))else{s with bV:=2}) q)/\
  ((!K)=false->aN cp 60 [vp b 0,vp a.D (a.off+k.length*6),xv x F H] v λt q=>
   eG [m.size] v q/\DI f e m b d p (cr h) (open Classical in if mU x.op/\s.bu=s.dV then{s with bV:=1}else if ln h s g x (bC g.ak g.aR (bT h x))then fF h s k g x (bC g.ak g.aR (bT h x))else{s with bV:=2}) q):=λaA=>by
  refine(PG am (j.cQ.box.cg 2) C F2 (Y.ext j.cQ.cy) V).mono ?_
  rintro _ m3 ⟨P,rfl,Z,al⟩
  let⟨B,t3⟩:=j.ext al
  have M:=A.to t3
  rw[ae aA]
  refine⟨t3.dI A,P,rfl,λq=>?_,λq=>?_⟩
  .rw[ae (nb Z q)]
   refine⟨B.cQ.mw (i:=3) aL,?_⟩
   intro m4
   let⟨D,t⟩:=B.jw 3 [.i 2]
   refine⟨t.dI M,e,aT,c,a,?_,(t2.trans t3).trans t⟩
   have:=D.cQ
   rw[<-r]at this
   exact this
  .have w:=yb Z q
   rw[an w]
   refine(QQ C rfl w B z Y hj ay aD).mono ?_
   rintro _ m4 ⟨aK,ar,ap,aa,Q,t⟩
   exact⟨t.dI M,aK,ar,ap,aa,Q,(t2.trans t3).trans t⟩
 refine⟨λQ I=>I=n/\(Q=true<->mU x.op),⟨λq=>⟨rfl,by simp at q;simp[mU,q]⟩,λq=>⟨λw=>⟨rfl,by simp at w;simp[mU,w]⟩,λw=>⟨rfl,by simp at q w;simp[mU,q,w]⟩⟩⟩,?_⟩
 rintro Q m3 ⟨rfl,aa⟩
 refine⟨λar=>⟨s.bu,j.cQ.box.cg 5,s.dV,j.cQ.box.cg 6,λw=>?_,λw=>?_⟩,λap=>?_⟩
 .simp at w
  refine⟨j.cQ.mw (i:=3) aL,?_⟩
  intro m4
  let⟨D,t⟩:=j.jw 3 [.i 1]
  refine⟨t.dI A,e,aT,c,a,?_,t2.trans t⟩
  rw[an ⟨aa.1 ar,w⟩]
  have:=D.cQ
  rw[<-r]at this
  exact this
 .simp at w
  exact jN λt=>w t.2
 .exact jN λt=>by have:=aa.2 t.1;rw[ap]at this;simp at this
end
end
end Go.Proofs.YtkoifinbblcbiaaGreat
section
namespace Go.Vc
def vF{m:E}{b o:Nat}{v:Value}(h:(af m b o).isSome=true):af (rm m b o v) b o=some v:=by
 unfold af at h⊢;simp only[rm,lH,Mp];cases d:m[b]? with
 |none=>rw[d]at h;simp at h
 |some f=>
  rw[d]at h;cases f with
  |cells c g i=>
   simp only[]at h;have e:o<c.size:=by
    rcases aW o c.size with a|a
    .exact a
    .rw[I5 a]at h;simp at h
   simp[e]
  |_=>simp at h
def KN{m:E}{c o a b:Nat}{v:Value}(h:a≠c\/b≠o):af (rm m c o v) a b=af m a b:=by
 by_cases d:a=c
 .subst d;have e:b≠o:=by rcases h with h|h;exact absurd rfl h;exact h
  unfold af;simp only[rm,lH,Mp];cases d:m[a]? with
  |none=>rfl
  |some f=>
   cases f with
   |cells g i j=>simp[kE e]
   |_=>rfl
 .exact aJ (Lt _ _ _ _ d) _
def QH(m:E)(c o:Nat)(v:Value)(a d:Nat):vE (rm m c o v) a d=vE m a d:=by
 by_cases b:a=c
 .subst b;unfold vE;simp only[rm,lH,Mp];cases b:m[a]? with
  |none=>rfl
  |some e=>
   cases e with
   |cells f g h=>rfl
   |_=>rfl
 .unfold vE;rw[Lt _ _ _ _ b]
structure Uj(m:E)(k:Int)(pos:List (Nat×Nat))(m':E):Prop where
 size:m.size<=m'.size
 D:∀b,b<m.size->(∀p∈pos,p.1≠b)->m'[b]? =m[b]?
 cell:∀b o,b<m.size->(b,o)∉pos->af m' b o=af m b o
 vE:∀b o,b<m.size->Vc.vE m' b o=Vc.vE m b o
 int:∀p∈pos,∃n,af m' p.1 p.2=some (vi n)
 val:pos.Nodup->∀(j:Nat)(p:Nat×Nat),pos[j]? =some p->af m' p.1 p.2=some (vi (k+j))
def Uj.nil{m c:E}(h:J m c)(k:Int):Uj m k [] c:=
 ⟨h.size,λb a _=>h.same b a,λb o a _=>aJ (h.same b a) o,λb o a=>by unfold Vc.vE;rw[h.same b a],aL,aL⟩
def Uj.lK{m:E}{b o:Nat}(h:(af m b o).isSome=true)(k:Int):Uj m k [(b,o)] (ah m b o [.i k]):=by
 refine⟨tV (aw _ _ _ _).symm,λc f d=>bd _ _ _ _ λe=>d (b,o) aL e.symm,λc q f d=>?_,λc q f=>QH _ _ _ _ _ _,λp a=>?_,λ_ j p a=>?_⟩
 .refine KN ?_;by_cases e:c=b
  .right;intro g;subst e;subst g;simp at d
  .exact Or.inl e
 .simp at a;subst a;exact⟨k,vF h⟩
 .cases j with
  |zero=>
   simp at a;subst a;have e:k+((0:Nat):Int)=k:=V;rw[e];exact vF h
  |succ j=>simp at a
def Uj.trans{m l n:E}{k:Int}{e p2:List (Nat×Nat)}(h:Uj m k e l)(g:Uj l (k+e.length) p2 n):Uj m k (e++p2) n:=by
 have v:=h.size;refine⟨bH h.size g.size,λc f b=>?_,λc o f b=>?_,λc o f=>?_,λp a=>?_,λhd j p a=>?_⟩
 .rw[g.D c V λp a=>b p (eE _ a),h.D c f λp a=>b p (bI _ a)]
 .rw[g.cell c o V λa=>b (eE _ a),h.cell c o f λa=>b (bI _ a)]
 .rw[g.vE c o V,h.vE c o f]
 .by_cases i:p∈p2
  .exact g.int p i
  .have d:p∈e:=by rcases List.mem_append.1 a with d|d;exact d;exact absurd d i
   let⟨q,b⟩:=h.int p d;exact⟨q,by rw[g.cell p.1 p.2 (mf b) i];exact b⟩
 .let⟨i,r,s⟩:=List.nodup_append.1 hd;by_cases u:j<e.length
  .rw[ax u]at a;have d:p∈e:=iy a;let⟨q,b⟩:=h.int p d;rw[g.cell p.1 p.2 (mf b) λt=>s p d p t rfl];exact h.val i j p a
  .rw[aI V]at a;have:=g.val r _ p a;have d:k+(e.length:Int)+((j -e.length:Nat):Int)=k+j:=V;rw[d]at this;exact this
inductive Uk where
 |nil
 |int (r:Uk)
 |sl (e r:Uk)
def Uk.size:Uk->Nat
 | .nil=>0
 | .int r=>r.size+1
 | .sl _ r=>r.size+1
inductive SR where
 |iB (r:Uk)
 |H9 (e:Uk) (n:Nat)
inductive vC(m:E):SR->Nat->Nat->List (Nat×Nat)->Prop where
 |nil (b o:Nat):vC m (.iB .nil) b o []
 |int {b o:Nat} {r:Uk} {p:List (Nat×Nat)} {n:Int} (h:af m b o=some (vi n)) (hf:Vc.vE m b o=false) (hr:vC m (.iB r) b (o+1) p):vC m (.iB (.int r)) b o ((b,o)::p)
 |sl {b o:Nat} {e r:Uk} {p1 p2:List (Nat×Nat)} {s:O} (h:af m b o=some (O.v s)) (hl:s.len<=9223372036854775807) (he:vC m (.H9 e s.len) s.D s.off p1) (hr:vC m (.iB r) b (o+1) p2):vC m (.iB (.sl e r)) b o (p1++p2)
 |zero (e:Uk) (b o:Nat):vC m (.H9 e 0) b o []
 |succ {b o n:Nat} {e:Uk} {p1 p2:List (Nat×Nat)} (he:vC m (.iB e) b o p1) (hr:vC m (.H9 e n) b (o+e.size) p2):vC m (.H9 e (n+1)) b o (p1++p2)
def vC.nJ{m:E}{K:SR}{f o:Nat}{e:List (Nat×Nat)}(h:vC m K f o e):∀p∈e,∃n,af m p.1 p.2=some (vi n):=by
 induction h with
 |nil=>simp
 |int h c d b=>
  intro p a;rcases List.mem_cons.1 a with rfl|a
  .exact⟨_,h⟩
  .exact b p a
 |sl h i g d b c=>
  intro p a;rcases List.mem_append.1 a with a|a
  .exact b p a
  .exact c p a
 |zero=>simp
 |succ g d b c=>
  intro p a;rcases List.mem_append.1 a with a|a
  .exact b p a
  .exact c p a
def vC.lt{m:E}{K:SR}{b o:Nat}{a:List (Nat×Nat)}(h:vC m K b o a):∀p∈a,p.1<m.size:=λp d=>let⟨_,c⟩:=h.nJ p d;mf c
def Ub(n:Int)(s:O):vi n≠O.v s:=by cases s<;>simp[vi,O.v]
def vC.ZZ{m j:E}{u:Int}{q:List (Nat×Nat)}(g:Uj m u q j)(t:∀p∈q,∃n,af m p.1 p.2=some (vi n)){K:SR}{b o:Nat}{k:List (Nat×Nat)}(h:vC m K b o k):vC j K b o k:=by
 induction h with
 |nil=>exact .nil _ _
 | @int b o v p n h d i e=>
  have a:=mf h;by_cases c:(b,o)∈q
  .let⟨l,f⟩:=g.int _ c;exact .int f (by rw[g.vE b o a];exact d) e
  .exact .int (by rw[g.cell b o a c];exact h) (by rw[g.vE b o a];exact d) e
 | @sl b o w v x p2 l h r p i d e=>
  have a:=mf h;refine .sl (s:=l) ?_ r d e;rw[g.cell b o a λc=>?_]
  .exact h
  .let⟨n,f⟩:=t _ c;rw[h]at f;exact Ub n l (jK f).symm
 |zero=>exact .zero _ _ _
 |succ p i d e=>exact .succ d e
def vC.ext{m a:E}(d:J m a){K:SR}{b o:Nat}{c:List (Nat×Nat)}(h:vC m K b o c):vC a K b o c:=h.ZZ (Uj.nil d 0) aL
end Go.Vc
namespace Go.Proofs.YtkoifinbblcbiaaGreat
open Go.Vc
end Go.Proofs.YtkoifinbblcbiaaGreat
end
namespace Go.Proofs.YtkoifinbblcbiaaGreat
open Go.Vc
section
section
variable{m:E}{s t:O}{l r:List Int}
def kO(f:ap m s l)(i:ap m t r):dt cp 16 [O.v s,O.v t] m (l=r):=by
 apply zU;have o:=f.len;have v:=i.len;refine⟨λh=>bW (λe=>?_) (J.az _),λh=>?_⟩
 .subst e;simp at h;omega
 .have u:l.length=r.length:=by simp at h;omega
  refine dU (n:=l.length) (o▸f.gT) (λk a=>J m a/\l.take k=r.take k) ⟨J.az _,aL⟩ ?_;rintro k w I μ q ⟨b,d⟩ p
  refine dit (λj=>?_) λj=>?_
  .let⟨y,g⟩:=cG l k;let⟨z,c⟩:=cG r k;refine⟨V,V,y,by simpa using b.af (f.aF g),V,V,z,by simpa using b.af (i.aF c),λa=>bW (λe=>?_) b,λa=>p V _ ⟨b,?_⟩⟩
   .subst e;rw[g]at c;simp at c a;exact a c
   .simp at a;rw[aU g,aU c,d,a]
  .rw[bY V,bY V]at d;exact iO d b
end
section
variable{m:E}{b P:Nat}{a:O}{S:List Nat}
def I8.ext{a:E}{dq:O}(h:I8 m dq)(x:J m a):I8 a dq:=⟨h.1,λk d=>let⟨v,b,c,g⟩:=h.2 k d;⟨v,b,c,x.af g⟩⟩
end
end
section
variable{n b:Nat}{f:Nat->Int}{d:cO}{s:St}
def sQ(n:Nat)(f:Nat->Int):List Int:=(List.range n).map f
def nY(n:Nat)(f:Nat->Int):(sQ n f).length=n:=by simp[sQ]
def uN(h:b<n):(sQ n f)[b]? =some (f b):=by
 unfold sQ;rw[cJ,Nb h];rfl
def fB{g:Nat->Int}(h:∀b,b<n->f b=g b):sQ n f=sQ n g:=by
 unfold sQ;exact List.map_congr_left λb a=>h b (List.mem_range.1 a)
def RO(v:Int):(sQ n f).set b v=sQ n (λa=>if a=b then v else f a):=by
 apply gV;intro i;by_cases a:i<n
 .rw[uN a];by_cases e:b=i
  .subst e;rw[dx (by rw[nY];exact a),an rfl]
  .rw[cv e,uN a,ae (λh=>e h.symm)]
 .rw[cN (by rw[eg,nY];omega),cN (by rw[nY];omega)]
def Sw(n:Nat):sQ n (λ_=>0)=dk n:=by
 unfold sQ dk;rw[List.map_const'];simp
structure N3(h:List bM):Prop where
 jz:nV h
 cells:∀c∈h,ou h c
 eu:∀(b:Nat)(c:bM),h[b]? =some c->0<c.aP->eu h b<=c.aP
 Mr:SF h
structure Hu(h:List bM)(f:aX):Prop where
 dz:∀(k:Nat)(w o:Int),f.ak[k]? =some w->f.aR[k]? =some o->(gL w\/1000<=w)/\(0<=o/\o<=999999)/\(0<o->fY h w)
structure Kl(d:cO)(h:List bM)(prev:Option aX)(f:aX):Prop where
 fE:0<=f.fE/\f.fE<d.cF.length
 pc:0<=f.pc/\f.pc<(dO d f.fE).dq.length
 lr:(f.ak.length:Int)=(dO d f.fE).ak
 lo:(f.aR.length:Int)=(dO d f.fE).ak
 lh:(f.ba.length:Int)=(dO d f.fE).ak
 ak:Hu h f
 first:prev=none->f.dst=0
 next:∀p,prev=some p->0<=f.dst/\f.dst<p.aR.length/\aF p.aR f.dst=0
def nA(a:List aX):Nat->Option aX
 |0=>none
 |k+1=>a[k]?
structure N4(h:List bM)(fs:List aX):Prop where
 cL:∀f∈fs,∀w∈f.ba,w=0\/(1000<=w/\ix w<h.length)
 k8:∀(i:Nat)(c:bM),h[i]? =some c->c.aP<0->dG fs i=1
 nj:∀(i:Nat)(c:bM),h[i]? =some c->0<=c.aP->dG fs i=0
structure Ni(d:cO)(s:St):Prop where
 fy:nl d
 bV:0<=s.bV/\s.bV<=3
 done:s.bV=0<->s.ao=[]
 value:gL s.value
 tP:s.value≠0->s.bV=0
 dV:0<=s.dV/\s.dV<=40
 bu:0<=s.bu/\s.bu<=s.dV
 depth:(s.ao.length:Int)<=s.bu+1
 aT:∀n∈s.aT,gL n
 heap:N3 s.heap
 ao:∀(k:Nat)(f:aX),s.ao[k]? =some f->Kl d s.heap (nA s.ao k) f
 ba:N4 s.heap s.ao
 QE:∀(b:Nat)(c:bM),s.heap[b]? =some c->0<c.aP->c.aP=eu s.heap b+fA s.ao b
def PM:∀{c:List aX}{b:Nat},0<fA c b->∃f∈c,0<de f.ak f.aR b
 |[],b,h=>by simp[fA]at h
 |f::c,b,h=>by
  simp only[fA]at h;by_cases d:0<de f.ak f.aR b
  .exact⟨f,aL,d⟩
  .let⟨g,e,i⟩:=PM (c:=c) (b:=b) V;exact⟨g,by simp[e],i⟩
def NC:∀{ak aR:List Int}{b:Nat},0<de ak aR b->∃(k:Nat)(o:Int),ak[k]? =some (1000+(b:Int))/\aR[k]? =some o/\0<o
 |[],aR,b,h=>by simp[de]at h
 |_::_,[],b,h=>by simp[de]at h
 |r::i,o::g,b,h=>by
  simp only[de]at h;by_cases a:r=1000+(b:Int)/\0<o
  .exact⟨0,o,by simp[a.1],rfl,a.2⟩
  .have:0<de i g b:=by
    split at h
    .rename_i e;have:¬0<o:=λc=>a ⟨e,c⟩;omega
    .omega
   let⟨k,f,c,d,e⟩:=NC this;exact⟨k+1,f,by simpa using c,by simpa using d,e⟩
def UU{a:List aX}{f:aX}(c:f∈a)(d:∀g∈a,0<=de g.ak g.aR b):de f.ak f.aR b<=fA a b:=by
 induction a with
 |nil=>simp at c
 |cons g a i=>
  have m:0<=fA a b:=by
   clear i c;induction a with
   |nil=>simp[fA]
   |cons q a j=>
    have k:=d q aL;have l:=j (λx e=>d x (by simp at e⊢;rcases e with h|h;exact Or.inl h;exact Or.inr (Or.inr h)));simp only[fA];omega
  simp only[fA];rcases List.mem_cons.1 c with rfl|c
  .omega
  .have:=i c λx e=>d x (by simp[e]);have:=d g aL;omega
def TR{a:List aX}(c:∀g∈a,0<=de g.ak g.aR b):0<=fA a b:=by
 induction a with
 |nil=>simp[fA]
 |cons q a e=>
  have f:=c q aL;have g:=e λx d=>c x (by simp[d]);simp only[fA];omega
def PF{a:List aX}{f:aX}(c:f∈a):eC f.ba b<=dG a b:=by
 induction a with
 |nil=>simp at c
 |cons g a d=>
  simp only[dG];rcases List.mem_cons.1 c with rfl|c
  .have:=vG a b;omega
  .have:=d c;have:=iD g.ba b;omega
def KU{a:List aX}(h:∀f∈a,∀w∈f.ba,w≠1000+(b:Int)):dG a b=0:=by
 induction a with
 |nil=>rfl
 |cons g a e=>
  simp only[dG];rw[e λf c=>h f (by simp[c]),nM λd=>h g aL _ d rfl];rfl
def vT{a:List aX}{f:aX}(h:f∈a):∃k:Nat,a[k]? =some f:=List.mem_iff_getElem?.1 h
def Ma(h:Ni d s):cY d s:=by
 have r:∀f∈s.ao,∃p,Kl d s.heap p f:=λf c=>let⟨k,g⟩:=vT c;⟨_,h.ao k f g⟩;have z:∀b,∀j∈s.ao,0<=de j.ak j.aR b:=λb j t=>by
  let⟨p,a⟩:=r j t;refine tp (λo l=>?_) b;let⟨k,g⟩:=List.mem_iff_getElem?.1 l;have u:=av g;have e:=a.lr;have q:=a.lo;let⟨w,i⟩:=cG j.ak k;exact(a.ak.dz k w o i g).2.1.1
 refine⟨h.fy,h.bV,h.done,h.value,h.tP,h.dV,h.bu,h.depth,h.aT,⟨h.heap.cells,h.heap.Mr,h.QE,λb=>TR (z b),λb y=>?_⟩,h.heap.jz,λf c=>?_,λf c=>(h.ao 0 f c).first rfl,λk f j c t=>(h.ao (k+1) j t).next f c,λb⟨m,n,v⟩=>h.ba.k8 b m n v,λb g=>?_⟩
 .let⟨f,c,a⟩:=PM y;let⟨k,o,e,q,x⟩:=NC a;let⟨p,a⟩:=r f c;have:=((a.ak.dz k _ o e q).2.2 x).2;rwa[lA]at this
 .let⟨p,a⟩:=r f c;refine⟨a.fE,a.pc,a.lr,a.lo,a.lh,λw i=>?_,λk o w l i=>?_,λw i=>?_⟩
  .let⟨k,g⟩:=List.mem_iff_getElem?.1 i;have u:=av g;have e:=a.lr;have q:=a.lo;let⟨o,l⟩:=cG f.aR k;exact(a.ak.dz k w o g l).1
  .have:=a.ak.dz k w o i l;exact⟨this.2.1.1,λx=>(this.2.2 x).1⟩
  .rcases h.ba.cL f c w i with e|e
   .exact Or.inl e
   .exact Or.inr e.1
 .rcases aW b s.heap.length with u|A
  .let⟨m,n⟩:=dB u;refine h.ba.nj b m n (Int.not_lt.1 λv=>g ⟨m,n,v⟩)
  .refine KU λf c w i x=>?_;rcases h.ba.cL f c w i with e|e
   .omega
   .have:=e.2;rw[x,lA]at this;omega
def Oj(h:cY d s):Ni d s:=by
 have E:∀b,∀p∈s.ao,0<=de p.ak p.aR b:=λb p D=>tp (h.ao p D).PL b;have y:∀f∈s.ao,∀(k:Nat)(w o:Int),f.ak[k]? =some w->f.aR[k]? =some o->0<o->fY s.heap w/\o<=999999:=λf g k w o i n q=>by
  have m:=((h.ao f g).aR k o w n i).2 q;have A:=il m;have B:=Li (h.ao f g).PL i n (d:=ix w) A.symm;have C:=UU g (E (ix w));have x:=h.heap.lv (ix w) V;let⟨j,e,c⟩:=x;have I:=h.heap.ex _ j e c;have J:=qT s.heap (ix w);have K:=(h.heap.cell j (aq e)).hi;exact⟨⟨m,j,e,c⟩,V⟩
 refine⟨h.fy,h.bV,h.done,h.value,h.tP,h.dV,h.bu,h.depth,h.aT,⟨h.jz,h.heap.cell,λb j e c=>?_,h.heap.Mr⟩,λk f g=>?_,⟨λf g w i=>?_,λu j e z=>h.k8 u ⟨j,e,z⟩,λu j e z=>h.nj u λ⟨H,r,L⟩=>?_⟩,h.heap.ex⟩
 .have:=h.heap.ex b j e c;have:=h.heap.nn b;omega
 .have t:=aq g;have F:=h.ao f t;refine⟨F.fE,F.pc,F.lr,F.lo,F.lh,⟨λv w o i n=>⟨F.RK w (aq i),⟨(F.aR v o w n i).1,?_⟩,λc=>(y f t v w o i n c).1⟩⟩,λc=>?_,λG c=>?_⟩
  .rcases I6 0 o with q|q
   .exact(y f t v w o i n q).2
   .omega
  .cases k with
   |zero=>exact h.first f g
   |succ k=>
    simp only[nA]at c;have:=av g;rw[List.getElem?_eq_none_iff]at c;omega
  .cases k with
   |zero=>simp[nA]at c
   |succ k=>exact h.chain k G f c g
 .rcases(h.ao f g).ba w i with m|m
  .exact Or.inl m
  .refine Or.inr ⟨m,Nat.lt_of_not_le λt=>?_⟩;have B:=h.nj (ix w) λ⟨j,e,_⟩=>by have:=av e;omega
   have C:=PF g (b:=ix w);have x:=uz (l:=f.ba) (f:=ix w) (by rw[il m];exact i);omega
 .rw[e]at r;simp at r;subst r;omega
end
section
variable{M d:E}{b e a:Nat}{f:Nat->Int}{h:List bM}{w:Int}{c:bM}
def Hp(w:Int):Prop:=-9223372036854775808<=w/\w<=9223372036854775807
def RX(h:List bM):Prop:=∀c∈h,∀w∈c.aE,Hp w
def tI(B:cE M b aA ((sQ e f).map Ce.i))(h:a<e):af M b a=some (vi (f a)):=by
 rw[B.cg a,cJ,uN h];rfl
def IV(B:cE M b aA ((sQ e f).map Ce.i))(a:Nat)(v:Int):cE (ah M b a [.i v]) b aA ((sQ e (λx=>if x=a then v else f x)).map Ce.i):=by
 have:=B.ah (m:=M) (o:=a) (r:=[.i v]);rw[Af,RO]at this;exact this
def NO(B:cE M b aA ((sQ e f).map Ce.i))(h:a<e):fK M b a 1:=B.fK (by simp[nY];omega)
def OU(B:cE M b aA ((sQ e f).map Ce.i))(h:e<=9223372036854775807):ap M (.mk b 0 e e) (sQ e f):=
 ⟨by simp[nY],ad _,h,λk x a=>⟨[.i x],rfl,λi c d=>by
  have g:k<e:=by have:=av a;rwa[nY]at this
  rw[uN g]at a;simp at a;cases i with
  |zero=>simp at d;subst d;have:=tI B g;rw[a]at this;simpa[Ce.v]using this
  |succ i=>simp at d⟩⟩
def Mc(M:E)(e:Nat):cE (M.push (.cells (bt (mH [.i (0:Int)] e)) aA)) M.size aA ((sQ e (λ_=>0)).map Ce.i):=by
 rw[tR,Sw];exact cE.push M _ _
def SZ(f:Nat)(b:List Value)(d:E)(l:List Int):Prop:=aN cp f b d λv a=>∃s,v=O.v s/\ap a s l/\J d a
def LP{f:O}(i:cW d f h)(k:Hp w):dt cp 177 [O.v f,vi w] d (qB h w):=by
 apply GF;refine(aY _ _ _ _).then λb m e c=>⟨b,rfl,λa=>iO (Or.inl (e.1 a)) c,λa=>?_⟩;refine(iX (cW.ext c i) k).then λb2 n g l=>⟨b2,rfl,eU ?_ (c.trans l)⟩;rw[g];exact⟨λh=>Or.inr h,λh=>h.resolve_left λj=>fb e a j⟩
def GZ{C f:O}(F:cW d C h)(x:ap d f c.aE)(G:∀w∈c.aE,Hp w):dt cp 115 [O.v C,.agg #[vi c.aP,vi c.j9,O.v f]] d (ou h c):=by
 apply Bl;simp -zeta only[aC,aB];intro o;have e:J d o:=(J.az d).aK _;have P:o.size=d.size+1:=by simp[o]
 clear_value o;have B:=x.len;refine⟨λt=>bW (λa=>by have:=a.fl;simp at t;omega) e,λt=>?_⟩;have y:c.aE.length<=3:=by simp at t;omega
 have q:∀b∈[d.size],b<o.size:=bE;refine(aY _ _ _ _).aH (J.az _) q λb N A i _=>⟨b,rfl,λu=>bW (λa=>nb A u ⟨a.lo,a.hi⟩) (e.trans i),λu=>?_⟩;have m:=yb A u;refine⟨λv=>?_,λv=>?_⟩
 .have k:c.aP<1:=by simpa using v
  refine⟨λl=>?_,λl=>bW (λa=>by simp at l;exact l (a.wM k).1) (e.trans i)⟩;have s:c.j9=0:=by simpa using l
  refine(mj (x.ext (e.trans i))).aH i q λb3 H z j _=>⟨b3,rfl,λg=>?_,λg=>bW (λa=>fb z g (a.wM k).2.1) ((e.trans i).trans j)⟩;have D:=z.1 g;refine⟨λr=>iO ⟨y,m.1,m.2,λ_=>⟨s,D,λp=>by simp at r;omega⟩,λp=>V⟩ ((e.trans i).trans j),λr=>eU ?_ ((e.trans i).trans j)⟩;have E:c.aP=0:=by simp at r;omega
  constructor
  .intro p;have:c.aE=[]:=by simp at p;exact List.length_eq_zero_iff.1 V
   exact⟨y,m.1,m.2,λ_=>⟨s,D,λ_=>this⟩,λp=>V⟩
  .intro a;have:=(a.wM k).2.2 E;rw[this]at B;simp[B]
 .have k:0<c.aP:=by simp at v;omega
  refine dU (n:=c.aE.length) V (λz p=>J o p/\∀w∈c.aE.take z,qB h w) ⟨i,aL⟩ ?_;rintro z H L μ M ⟨j,D⟩ I
  refine dit (λl=>?_) λl=>?_
  .let⟨w,r⟩:=cG c.aE z;refine⟨V,V,w,by simpa using(x.ext (e.trans j)).aF r,(LP (cW.ext (e.trans j) F) (G w (aq r))).aH j q λb4 E p K s=>⟨b4,rfl,λg=>bW (λa=>nb p g ((a.oP k).1 w (aq r))) (e.trans s),λg=>I V E ⟨s,bB r D (yb p g)⟩⟩⟩
  .refine(aY _ _ _ _).aH j q λb4 E p K s=>⟨b4,rfl,eU ?_ (e.trans s)⟩;rw[p];exact⟨λr=>⟨y,m.1,m.2,λg=>V,λ_=>⟨db V D,r⟩⟩,λa=>(a.oP k).2⟩
def NJ{i:Nat}(b:h[i]? =some c)(a:Nat):eu (h.take (i+1)) a=eu (h.take i) a+eC c.aE a:=by
 rw[aU b,uC];simp[eu]
def rj{l:List Int}{k:Nat}(b:l[k]? =some w)(a:Nat):eC (l.take (k+1)) a=eC (l.take k) a+(if w=1000+(a:Int)then 1 else 0):=by
 rw[aU b,lT];simp[eC]
def BP:∀(h:List bM)(a:Nat),(∀c∈h,c.aE.length<=3)->eu h a<=3*h.length
 |[],a,_=>by simp[eu]
 |c::h,a,b=>by
  have e:=BP h a λd hd=>b d (by simp[hd]);have f:=ku c.aE a;have g:=b c aL;simp only[eu,aZ];omega
def Ja(b:∀c∈h,ou h c)(d:c∈h)(e:w∈c.aE):fY h w\/w<1000:=by
 by_cases f:0<c.aP
 .rcases((b c d).oP f).1 w e with a|a
  .have:=a.2;exact Or.inr V
  .exact Or.inl a
 .have:=((b c d).wM V).2.1 w e;exact Or.inr V
def Bc{B:O}(z:cW d B h)(u:∀c∈h,ou h c)(R:RX h)(af:h.length<=1000000000):SZ 116 [O.v B] d (sQ h.length (eu h)):=by
 apply GJ;have hl:=z.len;have en:Int.toNat (B.len:Int)=h.length:=V;rw[en];refine⟨V,V,V,V,?_⟩;intro C;have Y:J d C:=(J.az d).aK _;have K:cE C d.size aA ((sQ h.length (λ_=>0)).map Ce.i):=Mc d _;clear_value C;have Q:∀i,∀c∈h.take i,c.aE.length<=3:=λi c S=>(u c (dA S)).fl;refine dU (n:=h.length) V (λi e=>J d e/\cE e d.size aA ((sQ h.length (λa=>eu (h.take i) a)).map Ce.i)) ⟨Y,by simpa[eu]using K⟩ ?_;rintro i m2 Z μ hi ⟨I,p⟩ X
 refine dit (λN=>?_) λN=>?_
 .let⟨c,v⟩:=cG h i;have x:=aq v;have ab:=(u c x).fl;refine dU (n:=c.aE.length) V (λk e=>J d e/\cE e d.size aA ((sQ h.length (λa=>eu (h.take i) a+eC (c.aE.take k) a)).map Ce.i)) ⟨I,by simpa[eC]using p⟩ ?_;rintro k U aa ν hk ⟨m,o⟩ H;obtain⟨f,y,_,_,s⟩:=(cW.ext m z).aF v;have ac:=y.len;refine⟨V,V,f,by simpa using s,dit (λP=>?_) λP=>?_⟩
  .let⟨w,l⟩:=cG c.aE k;have G:=aq l;have F:=R c x w G;refine⟨V,V,f,by simpa using s,V,V,w,by simpa using y.aF l,(iX (cW.ext m z) F).then λb W j e=>⟨b,rfl,λt=>?_,λt=>?_⟩⟩
   .have A:=j.1 t;have E:=av (bS A).1;have L:cT (w -1000)=(ix w:Nat):=by have:=A.1;have:=F.2;unfold ix;rw[aQ V V];omega
    have M:Int.toNat ((ix w:Nat):Int)=ix w:=V;have q:=o.ext e;have q1:=BP (h.take i) (ix w) (Q i);have q2:=ku (c.aE.take k) (ix w);have q3:=qT (h.take i) (ix w);have q4:=iD (c.aE.take k) (ix w);have q5:(h.take i).length<=h.length:=bE;have q6:(c.aE.take k).length<=3:=bE;refine⟨V,V,f,by simpa using e.af s,V,V,w,by simpa using(y.ext e).aF l,?_⟩;rw[L,M];simp only[O.gF,O.jB,O.mV,bU,eR];refine⟨V,V,_,tI q E,V,V,NO q E,?_⟩;rw[show cT (eu (h.take i) (ix w)+eC (c.aE.take k) (ix w)+1)=eu (h.take i) (ix w)+eC (c.aE.take k) (ix w)+1 from aQ V V];refine H V _ ⟨(m.trans e).ah (ad _) _ _,?_⟩;have D:=IV q (ix w) (eu (h.take i) (ix w)+eC (c.aE.take k) (ix w)+1);rw[fB (g:=λa=>eu (h.take i) a+eC (c.aE.take (k+1)) a)]at D
    .exact D
    .intro b j;rw[rj l];by_cases r:b=ix w
     .subst r;rw[an rfl,an (il A.1).symm];omega
     .rw[ae r,ae (λT=>r (by rw[T,lA]))];omega
   .refine H V W ⟨m.trans e,?_⟩;have q:w<1000:=(Ja u x G).resolve_left (fb j t);rw[fB (g:=λa=>eu (h.take i) a+eC (c.aE.take k) a)]
    .exact o.ext e
    .intro b j;rw[rj l,ae V];omega
  .refine X V U ⟨m,?_⟩
   have e:c.aE.take k=c.aE:=bY V;rw[e]at o;rw[fB (g:=λa=>eu (h.take i) a+eC c.aE a)]
   .exact o
   .intro b j;exact NJ v b
 .rw[bY V]at p;exact⟨_,rfl,OU p V,I⟩
end
section
variable{a b c:Nat}{h:List bM}{M g:E}{e:Nat->Bool}
def mE(mk:Nat->Bool):Nat->Nat
 |0=>0
 |c+1=>mE mk c+(if mk c=true then 1 else 0)
def Fv(mk:Nat->Bool):∀c,mE mk c<=c
 |0=>ad _
 |c+1=>by have:=Fv mk c;simp only[mE];split<;>omega
def KB{mk:Nat->Bool}:∀{c:Nat},(mE mk c=c<->∀i,i<c->mk i=true)
 |0=>by simp[mE]
 |c+1=>by
  have g:=Fv mk c;have a:=KB (mk:=mk) (c:=c);simp only[mE];constructor
  .intro h i f;have b:mk c=true:=by by_cases e:mk c=true;exact e;rw[ae e]at h;omega
   rw[an b]at h;rcases aW i c with d|d
   .exact a.1 V i d
   .have:i=c:=V;rw[this];exact b
  .intro h;rw[an (h c V),a.2 λi f=>h i V]
def KC{mk a:Nat->Bool}:∀{c:Nat},(∀i,i<c->mk i=a i)->mE mk c=mE a c
 |0,_=>rfl
 |c+1,h=>by simp only[mE];rw[KC λi b=>h i V,h c V]
def mL(mk:Nat->Bool)(a:Nat):Nat->Bool:=λx=>if x=a then true else mk x
def BT(mk:Nat->Bool)(a:Nat):mL mk a a=true:=an rfl
def pN{mk:Nat->Bool}(h:b≠a):mL mk a b=mk b:=ae h
def BU{mk:Nat->Bool}(h:mk b=true):mL mk a b=true:=by unfold mL;split;rfl;exact h
def zA{mk:Nat->Bool}{a:Nat}(h:mk a=false):∀{c:Nat},a<c->mE (mL mk a) c=mE mk c+1
 |0,d=>absurd d (eX _)
 |c+1,d=>by
  simp only[mE];rcases aW a c with b|b
  .rw[zA h b,pN V];omega
  .have e:a=c:=V;subst e;rw[BT,an rfl,h,ae aL,KC (a:=mk) λi f=>pN V]
def Nh(h:List bM)(mk:Nat->Bool):Prop:=
 ∃t:Nat->Nat,(∀j,mk j=true->t j<=mE mk h.length)/\∀(i:Nat)(c:bM),h[i]? =some c->mk i=true->∀w∈c.aE,1000<=w->mk (ix w)=true/\t (ix w)<t i
def Pb(mk:Nat->Bool)(a:List Int):Prop:=∀w∈a,1000<=w->mk (ix w)=true
def Nh.set{mk:Nat->Bool}(u:Nh h mk){j:bM}(l:h[a]? =some j)(e:mk a=false)(s:Pb mk j.aE):Nh h (mL mk a):=by
 let⟨z,k,r⟩:=u;have t:=av l;have q:=zA e t;refine⟨λx=>if x=a then mE mk h.length+1 else z x,λv n=>?_,λi d hd m w p o=>?_⟩
 .simp only[q];split
  .omega
  .rename_i b;rw[pN b]at n;have:=k v n;omega
 .by_cases f:i=a
  .subst f;rw[l]at hd;simp at hd;subst hd;have b:=s w p o;have g:ix w≠i:=λc=>by rw[c,e]at b;cases b
   simp only[an,ae g];exact⟨BU b,oh (k _ b)⟩
  .rw[pN f]at m;let⟨b,y⟩:=r i d hd m w p o;have g:ix w≠a:=λc=>by rw[c,e]at b;cases b
   simp only[ae f,ae g];exact⟨BU b,y⟩
def Sj{mk:Nat->Bool}(n:Nh h mk)(m:∀a∈h,∀w∈a.aE,1000<=w->ix w<h.length)(k:∀(i:Nat)(a:bM),h[i]? =some a->mk i=true\/¬Pb mk a.aE):
 mE mk h.length=h.length<->SF h:=by
 rw[KB]
 constructor
 .intro g
  obtain⟨t,_,f⟩:=n
  exact⟨t,λi a b w e d=>(f i a b (g i (av b)) w e d).2⟩
 .rintro⟨j,o⟩
  have q:∀(c i:Nat),j i<c->i<h.length->mk i=true:=by
   intro c;induction c with
   |zero=>intro i g;omega
   |succ c p=>
    intro i g l;let⟨a,b⟩:=dB l;rcases k i a b with f|f
    .exact f
    .refine absurd (λw e d=>?_) f;exact p (ix w) (oh (o i a b w e d)) (m a (aq b) w e d)
  exactλi g=>q (j i+1) i V g
def zt(c:Nat)(e:Nat->Bool):List Ce:=(List.range c).map λa=>Ce.t (e a)
def Fq(c:Nat)(e:Nat->Bool):(zt c e).length=c:=by simp[zt]
def Rj(B:cE M b sR (zt c e))(h:a<c):af M b a=some (vb (e a)):=by
 rw[B.cg a];unfold zt;rw[cJ,Nb h];rfl
def UB(B:cE M b sR (zt c e))(a:Nat):cE (ah M b a [.t true]) b sR (zt c (mL e a)):=by
 have j:=B.ah (m:=M) (o:=a) (r:=[.t true]);have d:jb (zt c e) a [.t true]=zt c (mL e a):=by
  apply gV;intro i;simp only[jb];by_cases k:i<c
  .have f:∀g:Nat->Bool,(zt c g)[i]? =some (.t (g i)):=λg=>by unfold zt;rw[cJ,Nb k];rfl
   rw[f];by_cases d:a=i
   .subst d;rw[dx (by rw[Fq];exact k),BT]
   .rw[cv d,f,pN (λh=>d h.symm)]
  .rw[cN (by rw[eg,Fq];omega),cN (by rw[Fq];omega)]
 rw[d]at j;exact j
def UA(M:E)(c:Nat):cE (M.push (.cells (bt (mH [.t false] c)) sR)) M.size sR (zt c (λ_=>false)):=by
 have e:mH [.t false] c=zt c (λ_=>false):=by
  unfold mH zt;rw[List.map_const'];simp
 rw[e];exact cE.push M _ _
def Gi{mk:Nat->Bool}{e:O}{d:List Int}(B:cE g b sR (zt c mk))(k:ap g e d)(p:∀w∈d,Hp w)(E:∀w∈d,1000<=w->ix w<c):
 dt cp 178 [O.v (.mk b 0 c c),O.v e] g (Pb mk d):=by
 apply Al
 have H:=k.len
 have K:=k.gT
 refine dU (n:=d.length) V (λr a=>J g a/\Pb mk (d.take r)) ⟨J.az _,λw p=>by simp at p⟩ ?_
 rintro r L I μ G ⟨f,l⟩ x
 refine dit (λA=>?_) λA=>?_
 .let⟨w,h⟩:=cG d r
  have q:=aq h
  have C:=p w q
  refine⟨V,V,w,by simpa using(k.ext f).aF h,(dW _ _).then λF u t i=>⟨F,rfl,λo=>?_,λo=>?_⟩⟩
  .have s:=t.1 o
   have D:=E w q s
   have y:cT (w -1000)=(ix w:Nat):=by have:=C.2;unfold ix;rw[aQ V V];omega
   have z:Int.toNat ((ix w:Nat):Int)=ix w:=V
   refine⟨V,V,w,by simpa using(k.ext (f.trans i)).aF h,?_⟩
   rw[y,z]
   simp only[O.gF,O.jB,O.mV,bU,eR]
   refine⟨V,V,mk (ix w),Rj (B.ext (f.trans i)) D,λj=>bW (λa=>by rw[a w q s]at j;cases j) (f.trans i),λj=>x V u ⟨f.trans i,?_⟩⟩
   rw[Pb,aU h]
   intro v a m
   rcases List.mem_append.1 a with a|a
   .exact l v a m
   .simp at a;subst a;simpa using j
  .refine x V u ⟨f.trans i,?_⟩
   rw[Pb,aU h]
   intro v a m
   rcases List.mem_append.1 a with a|a
   .exact l v a m
   .simp at a;subst a;exact absurd m (fb t o)
 .rw[bY V]at l
  exact iO l f
def Gx{y:O}(L:cW g y h)(hc:∀d∈h,ou h d)(aa:RX h)(ae:h.length<=1000000000):dt cp 117 [O.v y] g (SF h):=by
 apply AK;have hl:=L.len;have en:Int.toNat (y.len:Int)=h.length:=V;rw[en];have N:∀d∈h,∀G∈d.aE,1000<=G->ix G<h.length:=λd hm G hw y=>by
  rcases Ja hc hm hw with o|o
  .exact av (bS o).1
  .omega
 refine⟨V,V,V,V,?_⟩;intro F;have x1:J g F:=(J.az g).aK _;have W:cE F g.size sR (zt h.length (λ_=>false)):=UA g _;clear_value F;have X:mE (λ_=>false) h.length=0:=by
  generalize h.length=c;induction c with
  |zero=>rfl
  |succ c a=>simp[mE,a]
 refine RQ (γ:=(Nat->Bool)×Bool) (λf R gY u=>gY=f.2/\R=(mE f.1 h.length:Nat)/\J g u/\cE u g.size sR (zt h.length f.1)/\Nh h f.1/\(gY=false->∀(i:Nat)(d:bM),h[i]? =some d->f.1 i=true\/¬Pb f.1 d.aE))
  (λf=>if f.2=true then h.length -mE f.1 h.length+1 else 0) (λ_=>false,true) ⟨rfl,by rw[X];rfl,x1,W,⟨λ_=>0,aL,aL⟩,aL⟩ ?_
 rintro⟨mk,gY⟩ R af m2 ab μ ⟨rfl,rfl,U,H,B,I⟩ T
 simp only at H B I T⊢
 refine⟨λo=>?_,λo=>?_⟩
 .refine⟨λS z i u=>∃(k:Nat)(a:Nat->Bool),i=k/\k<=h.length/\S=(mE a h.length:Nat)/\J g u/\cE u g.size sR (zt h.length a)/\Nh h a/\mE mk h.length<=mE a h.length/\(z=true->mE mk h.length<mE a h.length)/\
   (z=false->∀(i:Nat)(d:bM),i<k->h[i]? =some d->a i=true\/¬Pb a d.aE),λ_ _ i _=>((h.length:Int) -i).toNat,⟨0,mk,rfl,dN _,rfl,U,H,B,ad _,aL,λ_ i d j=>absurd j (eX _)⟩,?_⟩
  rintro S z i m3 ⟨k,a,rfl,hk,rfl,v,n,w,Q,E,E3⟩;have ac:=Fv a h.length;have kD:∀{P:Prop},k<h.length->(cT ((k:Int)+1)=((k+1:Nat):Int)->((h.length:Int) -((k+1:Nat):Int)).toNat<((h.length:Int) -(k:Int)).toNat->P)->P:=λM hP=>hP (kC M V) (Dr M);refine dit (λh2=>?_) λh2=>?_
  .have p:k<h.length:=V;let⟨d,s⟩:=dB p;have Y:Int.toNat (k:Int)=k:=V;simp only[O.gF,O.jB,O.mV,bU,eR,Y];refine⟨V,V,a k,Rj n p,λC=>?_,λC=>?_⟩
   .have x:a k=false:=by simpa using C
    obtain⟨e,hf,_,_,Z⟩:=(cW.ext v L).aF s;refine⟨V,V,e,Z,(Gi n hf (aa d (aq s)) (N d (aq s))).then λb m4 K A=>⟨b,rfl,λD=>?_,λD=>?_⟩⟩
    .have j:=n.ext A;have m:=zA x p;refine⟨V,V,j.fK (by rw[Fq];omega),?_⟩;refine kD p λr t=>?_;rw[r,show cT ((mE a h.length:Nat)+1:Int)=((mE (mL a k) h.length:Nat):Int)by rw[m,aQ V V];omega];exact⟨⟨k+1,mL a k,rfl,V,rfl,(v.trans A).ah (ad _) _ _,UB j k,w.set s x (K.1 D),V,λ_=>V,λl=>by cases l⟩,t⟩
    .refine kD p λr t=>?_;rw[r];refine⟨⟨k+1,a,rfl,V,rfl,v.trans A,n.ext A,w,Q,E,λl j q hj hd=>?_⟩,t⟩;rcases aW j k with m|m
     .exact E3 l j q m hd
     .have:j=k:=V;subst this;rw[s]at hd;simp at hd;subst hd;exact Or.inr (fb K D)
   .have x:a k=true:=by simpa using C
    refine kD p λr t=>?_;rw[r];refine⟨⟨k+1,a,rfl,V,rfl,v,n,w,Q,E,λl j q hj hd=>?_⟩,t⟩;rcases aW j k with m|m
    .exact E3 l j q m hd
    .have:j=k:=V;subst this;exact Or.inl x
  .refine T (a,z) _ _ m3 ⟨rfl,rfl,v,n,w,λl j q hd=>E3 l j q (oh (av hd)) hd⟩ ?_
   simp only[o,Mp];split
   .rename_i m;have:=E m;omega
   .omega
 .refine eU ?_ U;rw[<-Sj B N (I o)];simp;omega
def G8{r:O}(m:cW g r h)(C:RX h)(K:h.length<=1000000000):dt cp 62 [O.v r] g (N3 h):=by
 apply Bn;have Z:=m.len;refine⟨λs=>s=g/\nV h,⟨λq=>?_,λq=>⟨rfl,λc d=>?_⟩⟩,?_⟩
 .simp at q;rw[aQ V V];let⟨c,d⟩:=cG h (h.length -1);obtain⟨e,B,g1,_,_⟩:=m.aF d;have i:Int.toNat ((r.len:Int) -1)=h.length -1:=V;rw[i];refine⟨V,V,c.aP,g1,λj=>bW (λl=>l.jz c d (by simpa using j)) (J.az _),λj=>⟨rfl,λo hd=>?_⟩⟩;rw[d]at hd;simp at hd;subst hd;simpa using j
 .have:=av d;simp at q;omega
 rintro S ⟨rfl,R⟩;refine dU (n:=h.length) V (λi s=>J S s/\∀c∈h.take i,ou h c) ⟨J.az _,aL⟩ ?_;rintro i m2 W μ l ⟨p,G⟩ T
 refine dit (λq=>?_) λq=>?_
 .let⟨c,d⟩:=cG h i;let⟨e,B,g1,g2,E⟩:=(cW.ext p m).aF d;refine⟨V,V,c.aP,by simpa using g1,c.j9,by simpa using g2,e,by simpa using E,(GZ (cW.ext p m) B (C c (aq d))).then λb D u w=>⟨b,rfl,λj=>bW (λl=>nb u j (l.cells c (aq d))) (p.trans w),λj=>T V D ⟨p.trans w,bB d G (yb u j)⟩⟩⟩
 have A:=db V G;refine(Bc (cW.ext p m) A C K).mono ?_;rintro _ D ⟨U,rfl,I,w⟩;have Q:=I.len;rw[nY]at Q;refine⟨U,rfl,dU (n:=h.length) V (λi s=>J D s/\∀(a:Nat)(c:bM),a<i->h[a]? =some c->0<c.aP->eu h a<=c.aP) ⟨J.az _,λa c t=>absurd t (eX _)⟩ ?_⟩;rintro i L X ν Y ⟨x,H⟩ M;have v:=(p.trans w).trans x;refine dit (λj=>?_) λj=>?_
 .let⟨c,d⟩:=cG h i;let⟨e,B,g1,g2,E⟩:=(cW.ext v m).aF d;have gY:(0<c.aP->eu h i<=c.aP)->∀(a:Nat)(o:bM),a<i+1->h[a]? =some o->0<o.aP->eu h a<=o.aP:=λP a o t hd=>by
   rcases aW a i with F|F
   .exact H a o F hd
   .have:a=i:=V;subst this;rw[d]at hd;simp at hd;subst hd;exact P
  refine⟨V,V,c.aP,by simpa using g1,λy=>?_,λy=>M V L ⟨x,gY λz=>by simp at y;omega⟩⟩;have N:=(I.ext x).aF (k:=i) (uN (f:=eu h) (show i<h.length by omega));refine⟨V,V,c.aP,by simpa using g1,V,V,eu h i,by simpa using N,λz=>bW (λl=>?_) v,λz=>M V L ⟨x,gY λ_=>by simp at z;omega⟩⟩;have:=l.eu i c d (by simpa using y);simp at z;omega
 .refine(Gx (cW.ext v m) A C K).then λb y u o=>⟨b,rfl,eU ?_ (v.trans o)⟩;rw[u];exact⟨λt=>⟨R,A,λa c d r=>H a c (oh (av d)) d r,t⟩,λl=>l.Mr⟩
end
section
variable{m:E}{f:aX}
structure gE(m:E)(aT hp fr:O)(s:St):Prop where
 aT:ap m aT s.aT
 heap:cW m hp s.heap
 ao:jy m fr s.ao
def gE.ext{m d:E}{aT c b:O}{s:St}(h:gE m aT c b s)(a:J m d):gE d aT c b s:=⟨h.aT.ext a,cW.ext a h.heap,jy.ext a h.ao⟩
def RW(f:aX):Prop:=(∀w∈f.ak,Hp w)/\(∀w∈f.aR,Hp w)/\(∀w∈f.ba,Hp w)
structure DH(s:St):Prop where
 bu:Hp s.bu
 heap:RX s.heap
 ao:∀f∈s.ao,RW f
 lh:s.heap.length<=10000000
 lf:s.ao.length<=10000000
 lr:∀f∈s.ao,f.ak.length<=10000000/\f.aR.length<=10000000/\f.ba.length<=10000000
def Na(s:St)(aT b a:O):Value:=.agg #[vi s.bV,vi s.value,vi s.bu,vi s.dV,O.v aT,O.v b,O.v a]
def Ei{f:O}{l:List Int}(c:ap m f l):dt cp 61 [O.v f] m (∀a∈l,gL a):=by
 apply yE;have s:=c.len;have t:=c.gT;refine dU (n:=l.length) V (λk b=>J m b/\∀a∈l.take k,gL a) ⟨J.az _,aL⟩ ?_;rintro k u I μ r ⟨a,g⟩ q
 refine dit (λj=>?_) λj=>?_
 .let⟨w,d⟩:=cG l k;exact⟨V,V,w,by simpa using(c.ext a).aF d,(aY _ _ _ _).then λi p e h=>⟨i,rfl,λb=>bW (λo=>nb e b (o w (aq d))) (a.trans h),λb=>q V p ⟨a.trans h,bB d g (yb e b)⟩⟩⟩
 .exact iO (db V g) a
def Rg(h:List bM)(w o:Int):Prop:=(gL w\/1000<=w)/\(0<=o/\o<=999999)/\(0<o->fY h w)
def Ha{x z o aa:O}{h:List bM}(hh:cW m x h)(C:ap m z f.ak)(R:ap m o f.aR)(ad:f.aR.length=f.ak.length)(ab:RW f)(Y A Z:Int):
 dt cp 118 [O.v x,.agg #[vi Y,vi A,vi Z,O.v z,O.v o,O.v aa]] m (Hu h f):=by
 apply Br
 simp -zeta only[aC,aB]
 intro b
 have p:J m b:=(J.az m).aK _
 have s1:b.size=m.size+1:=by simp[b]
 clear_value b
 have v:∀A∈[m.size],A<b.size:=bE
 have ah:=C.len
 have ag:=R.len
 have ae:=C.gT
 refine dU (n:=f.ak.length) V (λk m'=>J b m'/\∀(j:Nat)(w o:Int),j<k->f.ak[j]? =some w->f.aR[j]? =some o->Rg h w o) ⟨J.az _,λj w o P=>absurd P (eX _)⟩ ?_
 rintro k U K μ Q ⟨I,S⟩ W
 refine dit (λh1=>?_) λh1=>?_
 .let⟨w,i⟩:=cG f.ak k
  let⟨r,B⟩:=cG f.aR k
  have gw:∀{M:E},J b M->af M z.D (z.off+Int.toNat (k:Int)*1)=some (vi w):=λD=>by simpa using(C.ext (p.trans D)).aF i
  have L:∀{M:E},J b M->af M o.D (o.off+Int.toNat (k:Int)*1)=some (vi r):=λD=>by simpa using(R.ext (p.trans D)).aF B
  have gY:Rg h w r->∀(j:Nat)(w o:Int),j<k+1->f.ak[j]? =some w->f.aR[j]? =some o->Rg h w o:=λa j w' G P y q=>by
   rcases aW j k with N|N
   .exact S j w' G N y q
   .have:j=k:=V;subst this;rw[i]at y;rw[B]at q;simp at y q;subst y;subst q;exact a
  have F:¬Rg h w r->¬Hu h f:=λa Q=>a (Q.dz k w r i B)
  have jN:∀{M:E},J b M->(gL w\/1000<=w)->(0:Int)<=(k:Int)/\(k:Int)<(o.len:Int)/\∃X:Int,af M o.D (o.off+Int.toNat (k:Int)*1)=some (vi X)/\
   aN cp 41 [vi X,vi (0:Int),vi (999999:Int)] M λac l=>eG [m.size] M l/\∃H:Bool,ac=vb H/\
   ((!H)=true->∃c:Bool,vb false=.bool c/\(c=true<->Hu h f)/\J m l)/\
   ((!H)=false->(0:Int)<=(k:Int)/\(k:Int)<(o.len:Int)/\∃g:Int,af l o.D (o.off+Int.toNat (k:Int)*1)=some (vi g)/\
   ((decide (g>(0:Int)))=true->aN cp 130 [O.v x,vi w] l λs d=>eG [m.size] l d/\∃e:Bool,s=vb e/\
    ((!e)=true->∃c:Bool,vb false=.bool c/\(c=true<->Hu h f)/\J m d)/\((!e)=false->K (cT ((k:Int)+(1:Int))) d/\μ (cT ((k:Int)+(1:Int))) d<μ k U))/\
   ((decide (g>(0:Int)))=false->K (cT ((k:Int)+(1:Int))) l/\μ (cT ((k:Int)+(1:Int))) l<μ k U)):=λ{M} xM hi=>by
   refine⟨V,V,r,L xM,(aY _ _ _ _).aH xM v λb3 m3 s x3 c=>⟨b3,rfl,λd=>bW (F λa=>nb s d a.2.1) (p.trans c),λd=>?_⟩⟩
   have T:=yb s d
   refine⟨V,V,r,L c,λe=>?_,λe=>W V _ ⟨c,gY ⟨hi,T,λx=>by simp at e;omega⟩⟩⟩
   refine(iX (cW.ext (p.trans c) hh) (ab.1 w (aq i))).aH c v λb4 m4 t x4 u=>⟨b4,rfl,λg=>bW (F λa=>nb t g (a.2.2 (by simpa using e))) (p.trans u),λg=>W V _ ⟨u,gY ⟨hi,T,λ_=>yb t g⟩⟩⟩
  refine⟨V,V,w,gw I,(aY _ _ _ _).aH I v λb3 m3 s x3 c=>⟨b3,rfl,λd=>?_,λd=>jN c (Or.inl (yb s d))⟩⟩
  refine(dW _ _).aH c v λb4 m4 t x4 u=>⟨b4,rfl,λe=>bW (F λa=>?_) (p.trans u),λe=>jN u (Or.inr (yb t e))⟩
  rcases a.1 with g|g
  .exact nb s d g
  .exact nb t e g
 .exact iO ⟨λj w G i q=>S j w G (oh (av i)) i q⟩ (p.trans I)
def ER{Q p aT c R:O}{l:cO}{s:St}(I:fw m Q p l)(i:gE m aT c R s)(ah:DH s){k:Nat}(H:s.ao[k]? =some f):
 dt cp 63 [.agg #[O.v Q,O.v p],Na s aT c R,vi k] m (Kl l s.heap (nA s.ao k) f):=by
 apply yY
 simp -zeta only[aC,aB]
 intro t b
 have x2:J m b:=((J.az m).aK _).aK _
 have s1:t.size=m.size+1:=by simp[t]
 have s2:b.size=m.size+2:=by simp[b,s1]
 clear_value b
 have au:=i.ao.len
 have ax:=i.ao.gT
 have az:=av H
 have aJ:=I.cF.len
 have aL:=I.cF.gT
 let⟨an,am,af,hr,Z,he,g0,g1,g2,g3,g4,g5⟩:=(i.ext x2).ao.aF H
 have ek:Int.toNat (k:Int)=k:=V
 rw[ek]
 refine⟨V,V,_,g0,_,g1,_,g2,an,g3,am,g4,af,g5,?_⟩
 intro m3 n
 have x4:J b n:=((J.az b).aK _).ah (ad _) _ _
 have s4:n.size=b.size+1:=by simp[n,m3,aw]
 clear_value n
 have hl:∀z∈[b.size,t.size,m.size],z<n.size:=bE
 have M:=x2.trans x4
 rw[aQ V V]
 refine(aY _ _ _ _).aH (J.az _) hl λb5 u T x _=>⟨b5,rfl,λA=>bW (λa=>nb T A ⟨a.fE.1,oh a.fE.2⟩) (M.trans x),λA=>?_⟩
 have aj:=yb T A
 have N:=M.trans x
 let⟨v,hq⟩:=cG l.cF f.fE.toNat
 have d:dO l f.fE=v:=by unfold dO;rw[hq];rfl
 let⟨pa,pl,pc,aG,aK,aa,k0,k1,k2,k3,k4⟩:=(I.ext N).cF.aF hq
 have aH:=aa.len
 have aI:=aa.gT
 refine⟨V,V,pa,k0,pl,k1,_,k2,_,k3,pc,k4,?_⟩
 intro m6 o
 have x7:J u o:=((J.az u).aK _).ah (ad _) _ _
 have s7:o.size=u.size+1:=by simp[o,m6,aw]
 have z5:=x.size
 clear_value o
 have K:∀z∈[u.size,b.size,t.size,m.size],z<o.size:=bE
 have P:=N.trans x7
 rw[aQ V V]
 refine(aY _ _ _ _).aH (J.az _) K λb8 m8 U y _=>⟨b8,rfl,λB=>bW (λa=>nb U B ⟨a.pc.1,by have:=a.pc.2;rw[d]at this;omega⟩) (P.trans y),λB=>?_⟩
 have ak:=yb U B
 have e:=P.trans y
 have aN:=hr.len
 have aA:=Z.len
 have ar:=he.len
 refine⟨λC=>bW (λa=>by have:=a.lr;rw[d]at this;simp at C;omega) e,λC=>?_⟩
 have q1:(f.ak.length:Int)=v.ak:=by simp at C;omega
 refine⟨λD=>bW (λa=>by have:=a.lo;rw[d]at this;simp at D;omega) e,λD=>?_⟩
 have q2:(f.aR.length:Int)=v.ak:=by simp at D;omega
 refine⟨λE=>bW (λa=>by have:=a.lh;rw[d]at this;simp at E;omega) e,λE=>?_⟩
 have q3:(f.ba.length:Int)=v.ak:=by simp at E;omega
 have ai:=ah.ao f (aq H)
 have ac:=((x4.trans x).trans x7).trans y
 refine(Ha (i.ext e).heap (hr.ext ac) (Z.ext ac) V ai _ _ _).aH y K λb9 m9 W x9 ao=>⟨b9,rfl,λF=>bW (λa=>nb W F a.ak) (e.trans x9),λF=>?_⟩
 have al:=yb W F
 have q:=e.trans x9
 have mk:(nA s.ao k=none->f.dst=0)->(∀p,nA s.ao k=some p->0<=f.dst/\f.dst<p.aR.length/\aF p.aR f.dst=0)->Kl l s.heap (nA s.ao k) f:=λha hb=>
  ⟨⟨aj.1,V⟩,⟨ak.1,by rw[d];omega⟩,by rw[d];exact q1,by rw[d];exact q2,by rw[d];exact q3,al,ha,hb⟩
 refine⟨λG=>eU ?_ q,λG=>?_⟩
 .have g:k=0:=by simp at G;omega
  subst g
  refine⟨λh=>mk (λ_=>by simpa using h) (λp c=>by simp[nA]at c),λa=>by simpa using a.first rfl⟩
 .have ay:k≠0:=by simp at G;omega
  obtain⟨j,rfl⟩:∃j,k=j+1:=⟨k -1,V⟩
  have ej:cT (((j+1:Nat):Int) -1)=(j:Int):=by rw[aQ V V];omega
  have ag:Int.toNat (j:Int)=j:=V
  rw[ej,ag]
  let⟨g,X⟩:=cG s.ao j
  have r:nA s.ao (j+1)=some g:=X
  obtain⟨r',o',e',aM,L,ap,_,_,_,_,y4,_⟩:=(i.ext q).ao.aF X
  have aD:=L.len
  have aE:=L.gT
  refine⟨V,V,o',y4,?_⟩
  rw[aQ V V]
  refine(aY _ _ _ _).aH ao K λae aO S w _=>⟨ae,rfl,λh=>?_,λh=>bW (λa=>?_) (q.trans w)⟩
  .have hd:=S.1 h
   let⟨ab,hv⟩:=cG g.aR f.dst.toNat
   have ev:aF g.aR f.dst=ab:=Hx hv
   refine⟨V,V,o',w.af y4,V,V,ab,(L.ext w).aF hv,eU ?_ (q.trans w)⟩
   refine⟨λh9=>mk (λY=>by rw[r]at Y;cases Y) (λp c=>by rw[r]at c;simp at c;subst c;exact⟨hd.1,V,by rw[ev];simpa using h9⟩),λa=>?_⟩
   have:=(a.next g r).2.2
   rw[ev]at this;simpa using this
  .have:=a.next g r
   exact fb S h ⟨this.1,V⟩
end
section
variable{i:Nat}{f:aX}
def KT{b:List aX}(c:b[i]? =some f)(a:Nat):dG (b.take (i+1)) a=dG (b.take i) a+eC f.ba a:=by
 rw[aU c,eK,iY]
def NE{b:List aX}(c:b[i]? =some f)(a:Nat):fA (b.take (i+1)) a=fA (b.take i) a+de f.ak f.aR a:=by
 rw[aU c,fX,kQ]
def tq:∀{ak aR:List Int}{a:Nat}{w o:Int},ak[a]? =some w->aR[a]? =some o->∀b,de (ak.take (a+1)) (aR.take (a+1)) b=de (ak.take a) (aR.take a) b+(if w=1000+(b:Int)then o else 0)
 |[],_,_,_,_,h,_,_=>by simp at h
 |_::_,[],_,_,_,_,h,_=>by simp at h
 |r::f,p::e,0,w,o,c,d,b=>by simp at c d;subst c;subst d;simp[de]
 |r::f,p::e,a+1,w,o,c,d,b=>by
  have:=tq (ak:=f) (aR:=e) (a:=a) (by simpa using c) (by simpa using d) b;simp only[Nd,de]at this⊢;omega
def KS:∀{a:List aX}{n:Nat},(∀f∈a,f.ba.length<=n)->∀b,dG a b<=a.length*n
 |[],n,_,b=>by simp[dG]
 |f::a,n,h,b=>by
  have c:=KS (a:=a) λg d=>h g (by simp[d]);have e:=c b;have i:=ku f.ba b;have j:=h f aL;simp only[dG,aZ];have:((a.length+1:Nat):Int)*n=a.length*n+n:=by push_cast;rw[Y1];omega
  omega
def Gc:∀{ak aR:List Int}{n:Int},0<=n->(∀o∈aR,0<=o/\o<=n)->∀a,0<=de ak aR a/\de ak aR a<=aR.length*n
 |[],aR,n,b,h,a=>by simp[de];exact Int.mul_nonneg V b
 |_::_,[],n,b,h,a=>by simp[de]
 |r::e,o::c,n,b,h,a=>by
  have f:=Gc (ak:=e) (aR:=c) b (λx d=>h x (by simp[d])) a;have d:=h o aL;have:((c.length+1:Nat):Int)*n=c.length*n+n:=by push_cast;rw[Y1];omega
  simp only[de,aZ];split<;>omega
def Kg:∀{a:List aX}{n:Nat}{k:Int},0<=k->(∀f∈a,f.aR.length<=n/\∀o∈f.aR,0<=o/\o<=k)->∀b,0<=fA a b/\fA a b<=a.length*(n*k)
 |[],n,k,_,_,b=>by simp[fA]
 |f::a,n,k,c,h,b=>by
  have e:=Kg (a:=a) c (λg d=>h g (by simp[d])) b;let⟨j,d⟩:=h f aL;have g:=Gc (ak:=f.ak) c d b;have i:(f.aR.length:Int)*k<=n*k:=Int.mul_le_mul_of_nonneg_right V c;have:((a.length+1:Nat):Int)*(n*k)=a.length*(n*k)+n*k:=by push_cast;rw[Y1];omega
  simp only[fA,aZ];omega
section
variable{m:E}{d p aT a b:O}{c:cO}{s:St}
def Ir(H:gE m aT a b s)(Q:DH s)(hd:s.ao.length<=41):dt cp 64 [Na s aT a b] m (N4 s.heap s.ao):=by
 apply CH;simp -zeta only[aC,aB];intro j;have y:J m j:=(J.az m).aK _;have s1:j.size=m.size+1:=by simp[j]
 clear_value j;have hl:=H.heap.len;have aw:=Q.lh;have ar:=H.ao.len;have en:Int.toNat (a.len:Int)=s.heap.length:=V;rw[en];refine⟨V,V,V,V,?_⟩;intro W;have x2:J j W:=(J.az j).aK _;have B2:cE W j.size aA ((sQ s.heap.length (λ_=>0)).map Ce.i):=Mc j _;clear_value W;have r:∀{N M':E},J j N->J N M'->eG [m.size] N M':=λP u=>u.dv λz r=>P.lt (by simp at r;omega);have ac:=λf A=>(Q.lr f A).2.2;refine dU (n:=s.ao.length) V (λi x=>J j x/\cE x j.size aA ((sQ s.heap.length (λc=>dG (s.ao.take i) c)).map Ce.i)/\∀f∈s.ao.take i,∀w∈f.ba,w=0\/(1000<=w/\ix w<s.heap.length)) ⟨x2,by simpa[dG]using B2,aL⟩ ?_;rintro i m3 am μ hi ⟨D,K,T⟩ al
 refine dit (λP=>?_) λP=>?_
 .let⟨f,A⟩:=cG s.ao i;have R:=aq A;have au:=ac f R;have ag:(∃w∈f.ba,¬(w=0\/(1000<=w/\ix w<s.heap.length)))->¬N4 s.heap s.ao:=λ⟨w,h,e⟩ v=>e (v.cL f R w h);refine dU (n:=f.ba.length) V (λk x=>J j x/\cE x j.size aA ((sQ s.heap.length (λc=>dG (s.ao.take i) c+eC (f.ba.take k) c)).map Ce.i)/\∀w∈f.ba.take k,w=0\/(1000<=w/\ix w<s.heap.length)) ⟨D,by simpa[eC]using K,aL⟩ ?_;rintro k o M ν v ⟨F,G,t⟩ C;obtain⟨az,ay,q,_,_,he,_,_,_,_,_,g5⟩:=(H.ext (y.trans F)).ao.aF A;have ap:=he.len;refine⟨V,V,q,by simpa using g5,dit (λu=>?_) λu=>?_⟩
  .let⟨w,h⟩:=cG f.ba k;have U:=aq h;have ak:=(Q.ao f R).2.2 w U;refine⟨V,V,q,by simpa using g5,V,V,w,by simpa using he.aF h,λp=>?_,λp=>?_⟩
   .have I:w≠0:=by simpa using p
    refine(dW _ _).mono ?_;rintro _ m5 ⟨b5,rfl,aa,Y⟩;have X:=F.trans Y;refine⟨r F Y,b5,rfl,λl=>bW (ag ⟨w,U,λe=>?_⟩) (y.trans X),λl=>?_⟩
    .rcases e with e|e
     .exact I e
     .exact nb aa l e.1
    have ah:=yb aa l;have ao:=ak.2;have e1:cT (w -1000)=(ix w:Nat):=by unfold ix;rw[aQ V V];omega
    have e2:Int.toNat ((ix w:Nat):Int)=ix w:=V;rw[e1,e2,show cT ((a.len:Int) -1)=(a.len:Int) -1 from aQ V V];refine(aY _ _ _ _).mono ?_;rintro _ m6 ⟨b6,rfl,ab,Z⟩;have ai:=X.trans Z;refine⟨r X Z,b6,rfl,λB=>bW (ag ⟨w,U,λe=>?_⟩) (y.trans ai),λB=>?_⟩
    .rcases e with e|e
     .exact I e
     .exact nb ab B ⟨V,V⟩
    have ax:=yb ab B;have S:ix w<s.heap.length:=V;have L:=G.ext (Y.trans Z);simp only[O.gF,O.jB,O.mV,bU,eR];have q1:=KS (a:=s.ao.take i) (n:=10000000) (λaj hg=>ac aj (dA hg)) (ix w);have q2:=ku (f.ba.take k) (ix w);have q3:=vG (s.ao.take i) (ix w);have q4:=iD (f.ba.take k) (ix w);have q5:(s.ao.take i).length<=41:=bE;have q6:(f.ba.take k).length<=10000000:=bE;refine⟨V,V,_,tI L S,V,V,NO L S,?_⟩;rw[show cT (dG (s.ao.take i) (ix w)+eC (f.ba.take k) (ix w)+1)=dG (s.ao.take i) (ix w)+eC (f.ba.take k) (ix w)+1 from aQ V V];have B7:=IV L (ix w) (dG (s.ao.take i) (ix w)+eC (f.ba.take k) (ix w)+1);rw[fB (g:=λc=>dG (s.ao.take i) c+eC (f.ba.take (k+1)) c)]at B7
    .refine⟨λz r=>bd _ _ _ _ (by simp at r;omega),C V _ ⟨ai.ah (ad _) _ _,B7,bB h t (Or.inr ⟨ah,S⟩)⟩⟩
    .intro z r;rw[rj h];by_cases q:z=ix w
     .subst q;rw[an rfl,an (il ah).symm];omega
     .rw[ae q,ae (λaj=>q (by rw[aj,lA]))];omega
   .have I:w=0:=by simpa using p
    refine C V o ⟨F,?_,bB h t (Or.inl I)⟩;rw[fB (g:=λc=>dG (s.ao.take i) c+eC (f.ba.take k) c)]
    .exact G
    .intro z r;rw[rj h,ae V];omega
  .have I:f.ba.take k=f.ba:=bY V;rw[I]at G t;refine al V o ⟨F,?_,bB A T t⟩
   rw[fB (g:=λc=>dG (s.ao.take i) c+eC f.ba c)]
   .exact G
   .intro z r;exact KT A z
 .have I:s.ao.take i=s.ao:=bY V;rw[I]at K T;simp only[O.gF,O.jB,O.mV,bU,eR];refine dU (n:=s.heap.length) V (λk x=>x=m3/\∀(c:Nat)(h:bM),c<k->s.heap[c]? =some h->(h.aP<0->dG s.ao c=1)/\(0<=h.aP->dG s.ao c=0)) ⟨rfl,λc h S=>absurd S (eX _)⟩ ?_;rintro k o M ν v ⟨rfl,t⟩ C;refine⟨λu=>?_,λu=>?_⟩
  .have U:k<s.heap.length:=by first|omega|(simp at u;omega)
   let⟨h,q⟩:=dB U;obtain⟨f,_,g1,_,_⟩:=(H.ext (y.trans D)).heap.aF q;have X:Int.toNat (k:Int)=k:=V;rw[X];have L:=tI K U;have gY:(h.aP<0->dG s.ao k=1)/\(0<=h.aP->dG s.ao k=0)->∀(c:Nat)(h:bM),c<k+1->s.heap[c]? =some h->(h.aP<0->dG s.ao c=1)/\(0<=h.aP->dG s.ao c=0):=λe c d S hd=>by
    rcases aW c k with R|R
    .exact t c d R hd
    .have:c=k:=V;subst this;rw[q]at hd;simp at hd;subst hd;exact e
   have MH:(h.aP<0->dG s.ao k=1)->(0:Int)<=(k:Int)/\(k:Int)<(a.len:Int)/\∃w:Int,af o a.D (a.off+k*3)=some (vi w)/\
    ((decide (w>=(0:Int)))=true->(0:Int)<=(k:Int)/\(k:Int)<(s.heap.length:Int)/\∃F:Int,af o j.size k=some (vi F)/\
    ((F !=(0:Int))=true->∃G:Bool,vb false=.bool G/\(G=true<->N4 s.heap s.ao)/\J m o)/\((F !=(0:Int))=false->M (cT ((k:Int)+1)) o/\ν (cT ((k:Int)+1)) o<ν k o))/\
    ((decide (w>=(0:Int)))=false->M (cT ((k:Int)+1)) o/\ν (cT ((k:Int)+1)) o<ν k o):=λe=>by
    refine⟨V,V,_,g1,λp=>⟨V,V,_,L,λl=>bW (λv=>?_) (y.trans D),λl=>C V _ ⟨rfl,gY ⟨e,λ_=>by simpa using l⟩⟩⟩,λp=>C V _ ⟨rfl,gY ⟨e,λB=>by simp at p;omega⟩⟩⟩
    have:=v.nj k h q (by simpa using p)
    simp at l;exact l this
   refine⟨V,V,_,g1,λp=>⟨V,V,_,L,λl=>bW (λv=>?_) (y.trans D),λl=>MH λ_=>by simpa using l⟩,λp=>MH λB=>by simp at p;omega⟩;have:=v.k8 k h q (by simpa using p);simp at l;exact l this
  .have l:s.heap.length<=k:=by first|omega|(simp at u;omega)
   exact iO ⟨T,λc h q e=>(t c h (oh (av q)) q).1 e,λc h q e=>(t c h (oh (av q)) q).2 e⟩ (y.trans D)
end
end
section
def Po(a:Int):(a==(0:Int))=decide (a=0):=by by_cases h:a=0<;>simp[h]
def Fp(a b:Int):(!((a==(0:Int))==(b==(0:Int))))=false<->(a=0<->b=0):=by
 rw[Po,Po];by_cases c:a=0<;>by_cases d:b=0<;>simp[c,d]
section
variable{m:E}{d p aT c b:O}{a:cO}{s:St}
structure SH(h:List bM)(fs:List aX):Prop where
 len:∀f∈fs,f.aR.length=f.ak.length
 ak:∀f∈fs,Hu h f
def SH.aR{h:List bM}{a:List aX}(H:SH h a){f:aX}(b:f∈a):∀o∈f.aR,0<=o/\o<=999999:=λo d=>by
 let⟨k,c⟩:=List.mem_iff_getElem?.1 d;let⟨w,e⟩:=cG f.ak k (O8 (av c) (H.len f b));exact((H.ak f b).dz k w o e c).2.1
def IH(y:gE m aT c b s)(C:DH s)(hd:s.ao.length<=41)(H:SH s.heap s.ao):SZ 120 [Na s aT c b] m (sQ s.heap.length (fA s.ao)):=by
 apply CT;simp -zeta only[aC,aB];intro d;have o:J m d:=(J.az m).aK _;have s1:d.size=m.size+1:=by simp[d]
 clear_value d;have hl:=y.heap.len;have aD:=C.lh;have ay:=y.ao.len;have en:Int.toNat (c.len:Int)=s.heap.length:=V;rw[en];refine⟨V,V,V,V,?_⟩;intro A;have x2:J d A:=(J.az d).aK _;have B2:cE A d.size aA ((sQ s.heap.length (λ_=>0)).map Ce.i):=Mc d _;have s2:A.size=d.size+1:=by simp[A]
 clear_value A;refine dU (n:=s.ao.length) V (λi j=>J d j/\d.size<j.size/\cE j d.size aA ((sQ s.heap.length (λe=>fA (s.ao.take i) e)).map Ce.i)) ⟨x2,V,by simpa[fA]using B2⟩ ?_;rintro i S ar μ hi ⟨B,z3,I⟩ am
 refine dit (λh1=>?_) λh1=>?_
 .let⟨f,v⟩:=cG s.ao i;have x:=aq v;have aE:=C.lr f x;let⟨ag,G,u,hr,P,he,g0,g1,g2,Y,Z,g5⟩:=(y.ext (o.trans B)).ao.aF v;have aI:=hr.len;have aG:=P.len;have az:=H.len f x;have ei:Int.toNat (i:Int)=i:=V;rw[ei];refine⟨V,V,_,g0,_,g1,_,g2,ag,Y,G,Z,u,g5,?_⟩;intro m4 l;have x5:J S l:=((J.az S).aK _).ah (ad _) _ _;have s5:l.size=S.size+1:=by simp[l,m4,aw]
  clear_value l;have ao:=B.trans x5;refine dU (n:=f.aR.length) V (λa j=>J d j/\l.size<=j.size/\(∀h,h<l.size->h≠d.size->j[h]? =l[h]?)/\cE j d.size aA ((sQ s.heap.length (λe=>fA (s.ao.take i) e+de (f.ak.take a) (f.aR.take a) e)).map Ce.i)) ⟨ao,ad _,λ_ _ _=>rfl,by simpa[de]using(I.ext x5)⟩ ?_;rintro a F au ν hk ⟨t,z6,X,p⟩ ac;refine dit (λh2=>?_) λh2=>?_
  .let⟨w,z⟩:=cG f.ak a;let⟨q,E⟩:=cG f.aR a;have R:=(H.ak f x).dz a w q z E;obtain⟨r',o',e',aH,aF,ax,_,_,_,_,y4,_⟩:=(y.ext (o.trans t)).ao.aF v;have lb:∀{sl:O}{ab:List Int},ap m sl ab->ab≠[]->sl.D<m.size:=λah D=>iF ah D;obtain⟨U,T,e0,aj,ai,_,_,_,_,w3,w4,_⟩:=y.ao.aF v;have er:U=ag:=by have:=(o.trans B).af w3;rw[Y]at this;exact(O.BA.1 (jK this)).symm
   have eo:T=G:=by have:=(o.trans B).af w4;rw[Z]at this;exact(O.BA.1 (jK this)).symm
   subst er;subst eo;have gq:af F T.D (T.off+Int.toNat (a:Int)*1)=some (vi q):=by simpa using(ai.ext (o.trans t)).aF E
   have gw:af F U.D (U.off+Int.toNat (a:Int)*1)=some (vi w):=by simpa using(aj.ext (o.trans t)).aF z
   refine⟨V,V,q,gq,λM=>?_,λM=>?_⟩
   .have Q:0<q:=by simpa using M
    have N:=R.2.2 Q;have aa:=av (bS N).1;have K:cT (w -1000)=(ix w:Nat):=by have:=N.1;have:=((C.ao f x).1 w (aq z)).2;unfold ix;rw[aQ V V];omega
    have L:Int.toNat ((ix w:Nat):Int)=ix w:=V;refine⟨V,V,w,gw,V,V,w,gw,?_⟩;rw[K,L];simp only[O.gF,O.jB,O.mV,bU,eR];have q1:=Kg (a:=s.ao.take i) (n:=10000000) (k:=999999) V (λW r=>⟨(C.lr W (dA r)).2.1,H.aR (dA r)⟩) (ix w);have q2:=Gc (ak:=f.ak.take a) (aR:=f.aR.take a) (n:=999999) V (λG P=>H.aR x G (dA P)) (ix w);have q5:(s.ao.take i).length<=41:=bE;have q6:(f.aR.take a).length<=10000000:=bE;have q7:=R.2.1;refine⟨V,V,_,tI p aa,V,V,q,by simpa using gq,V,V,NO p aa,?_⟩;rw[show cT (fA (s.ao.take i) (ix w)+de (f.ak.take a) (f.aR.take a) (ix w)+q)=fA (s.ao.take i) (ix w)+de (f.ak.take a) (f.aR.take a) (ix w)+q from aQ V V];have W:=IV p (ix w) (fA (s.ao.take i) (ix w)+de (f.ak.take a) (f.aR.take a) (ix w)+q);rw[fB (g:=λe=>fA (s.ao.take i) e+de (f.ak.take (a+1)) (f.aR.take (a+1)) e)]at W
    .refine⟨λh r=>bd _ _ _ _ (by simp at r;omega),ac V _ ⟨t.ah (ad _) _ _,by rw[aw];exact z6,λh r D=>by rw[bd _ _ _ _ D];exact X h r D,W⟩⟩
    .intro h r;rw[tq z E];by_cases u:h=ix w
     .subst u;rw[an rfl,an (il N.1).symm];omega
     .rw[ae u,ae (λal=>u (by rw[al,lA]))];omega
   .have Q:q=0:=by have:=R.2.1.1;simp at M;omega
    refine ac V F ⟨t,z6,X,?_⟩;rw[fB (g:=λe=>fA (s.ao.take i) e+de (f.ak.take a) (f.aR.take a) e)]
    .exact p
    .intro h r;rw[tq z E,Q];split<;>omega
  .have K:f.ak.take a=f.ak:=bY V;have L:f.aR.take a=f.aR:=bY V;rw[K,L]at p;refine am V F ⟨t,V,?_⟩
   rw[fB (g:=λe=>fA (s.ao.take i) e+de f.ak f.aR e)]
   .exact p
   .intro h r;exact NE v h
 .have a:s.ao.take i=s.ao:=bY V;rw[a]at I;exact⟨_,rfl,OU I V,o.trans B⟩
def CC(j:gE m aT c b s)(i:DH s)(hd:s.ao.length<=41)(H:SH s.heap s.ao)(h:∀a∈s.heap,ou s.heap a):
 dt cp 65 [Na s aT c b] m (∀(e:Nat)(a:bM),s.heap[e]? =some a->0<a.aP->a.aP=eu s.heap e+fA s.ao e):=by
 apply xg
 simp -zeta only[aC,aB]
 intro l
 have v:J m l:=(J.az m).aK _
 have Z:l.size=m.size+1:=by simp[l]
 clear_value l
 have R:=j.heap.len
 have S:=i.lh
 refine(Bc (j.ext v).heap h i.heap V).mono ?_
 rintro _ T ⟨O,rfl,C,o⟩
 have z2:=o.size
 refine⟨o.dv bE,O,rfl,(IH (j.ext (v.trans o)) i hd H).mono ?_⟩
 rintro _ M ⟨N,rfl,A,w⟩
 have K:=C.len
 have I:=A.len
 rw[nY]at K I
 have p:=(v.trans o).trans w
 refine⟨w.dv bE,N,rfl,?_⟩
 refine dU (n:=s.heap.length) V (λf L=>L=M/\∀(e:Nat)(a:bM),e<f->s.heap[e]? =some a->0<a.aP->a.aP=eu s.heap e+fA s.ao e) ⟨rfl,λe a y=>absurd y (eX _)⟩ ?_
 rintro f U P μ z ⟨rfl,B⟩ D
 refine dit (λF=>?_) λF=>?_
 .have t:f<s.heap.length:=V
  let⟨a,r⟩:=dB t
  obtain⟨Q,_,g1,_,_⟩:=(j.ext p).heap.aF r
  have E:Int.toNat (f:Int)=f:=V
  rw[E]
  have gY:(0<a.aP->a.aP=eu s.heap f+fA s.ao f)->∀(e:Nat)(a:bM),e<f+1->s.heap[e]? =some a->0<a.aP->a.aP=eu s.heap e+fA s.ao e:=λu e d y hd=>by
   rcases aW e f with x|x
   .exact B e d x hd
   .have:e=f:=V;subst this;rw[r]at hd;simp at hd;subst hd;exact u
  have W:=BP s.heap f λa G=>(h a G).fl
  have X:=qT s.heap f
  have Y:=Kg (a:=s.ao) (n:=10000000) (k:=999999) V (λq g=>⟨(i.lr q g).2.1,H.aR g⟩) f
  refine⟨V,V,_,g1,λq=>?_,λq=>D V _ ⟨rfl,gY λg=>by simp at q;omega⟩⟩
  refine⟨V,V,_,g1,V,V,_,(C.ext w).aF (uN t),V,V,_,A.aF (uN t),?_⟩
  rw[show cT (eu s.heap f+fA s.ao f)=eu s.heap f+fA s.ao f from aQ V V]
  refine⟨λg=>bW (λz=>?_) p,λg=>D V _ ⟨rfl,gY λ_=>by simpa using g⟩⟩
  have:=z f a r (by simpa using q)
  simp at g;exact g this
 .exact iO (λe a h u=>B e a (oh (av h)) h u) p
def EW(ae:fw m d p a)(x:gE m aT c b s)(G:DH s):dt cp 34 [.agg #[O.v d,O.v p],Na s aT c b] m (cY a s):=by
 apply zc;simp -zeta only[aC,aB];intro H l;have o:J m l:=((J.az m).aK _).aK _;have s1:H.size=m.size+1:=by simp[H]
 have s2:l.size=m.size+2:=by simp[l,s1]
 clear_value l;have k:∀af∈[H.size,m.size],af<l.size:=bE;have ak:=x.ao.len;have h:∀{M:E},J l M->¬Ni a s->∃q:Bool,vb false=.bool q/\(q=true<->cY a s)/\J m M:=λU hn=>bW (λe=>hn (Oj e)) (o.trans U);refine(tG (ae.ext o)).aH (J.az _) k λb3 m3 Z x3 _=>⟨b3,rfl,λL=>h x3 λe=>nb Z L e.fy,λL=>?_⟩;have hi:=yb Z L;refine(aY _ _ _ _).aH x3 k λb4 m4 aa ay X=>⟨b4,rfl,λN=>h X λe=>nb aa N e.bV,λN=>?_⟩;have an:=yb aa N;have ac:(s.ao=[])<->((b.len:Int)=0):=by rw[ak];simp
 refine⟨λP=>h X λe=>?_,λP=>?_⟩
 .have:=e.done;rw[ac,<-Fp]at this;rw[this]at P;cases P
 have aj:s.bV=0<->s.ao=[]:=by rw[ac];exact(Fp _ _).1 P
 refine⟨λM=>J l M/\gL s.value/\(s.value≠0->s.bV=0)/\(0<=s.dV/\s.dV<=40)/\(0<=s.bu/\s.bu<=s.dV),?_,?_⟩
 .refine(aY _ _ _ _).aH X k λb5 W u y w=>⟨b5,rfl,λr=>h w λe=>nb u r e.value,λr=>?_⟩;have tail:(s.value≠0->s.bV=0)->aN cp 41 [vi s.dV,vi (0:Int),vi (40:Int)] W λv f=>eG [H.size,m.size] W f/\∃i:Bool,v=vb i/\
   ((!i)=true->∃q:Bool,vb false=.bool q/\(q=true<->cY a s)/\J m f)/\((!i)=false->aN cp 41 [vi s.bu,vi (0:Int),vi s.dV] f λt g=>
   eG [H.size,m.size] f g/\∃j:Bool,t=vb j/\((!j)=true->∃q:Bool,vb false=.bool q/\(q=true<->cY a s)/\J m g)/\
   ((!j)=false->J l g/\gL s.value/\(s.value≠0->s.bV=0)/\(0<=s.dV/\s.dV<=40)/\(0<=s.bu/\s.bu<=s.dV))):=λT=>
   (aY _ _ _ _).aH w k λb6 m6 C aq z=>⟨b6,rfl,λg=>h z λe=>nb C g e.dV,λg=>
    (aY _ _ _ _).aH z k λR m7 D ar I=>⟨R,rfl,λB=>h I λe=>nb D B e.bu,λB=>⟨I,(yb u r),T,yb C g,yb D B⟩⟩⟩
  refine⟨λt=>⟨λg=>h w λe=>?_,λg=>tail λ_=>by simpa using g⟩,λt=>tail λg=>absurd (by simpa using t) g⟩;have:=e.tP (by simpa using t);simp at g;exact g this
 .rintro W ⟨w,hv,T,al,ah⟩;rw[aQ V V];refine⟨λr=>h w λe=>by have:=e.depth;simp at r;omega,λr=>?_⟩;have ai:(s.ao.length:Int)<=s.bu+1:=by simp at r;omega
  have ab:s.ao.length<=41:=V;refine(Ei (x.ext (o.trans w)).aT).aH w k λb6 m6 C aq z=>⟨b6,rfl,λt=>h z λe=>nb C t e.aT,λt=>?_⟩;have am:=yb C t;refine(G8 (x.ext (o.trans z)).heap G.heap (oh G.lh)).aH z k λR m7 D ar I=>⟨R,rfl,λg=>h I λe=>nb D g e.heap,λg=>?_⟩;have ad:=yb D g;refine dU (n:=s.ao.length) V (λy m'=>J l m'/\∀(j:Nat)(f:aX),j<y->s.ao[j]? =some f->Kl a s.heap (nA s.ao j) f) ⟨I,λj f v=>absurd v (eX _)⟩ ?_;rintro y m8 aw μ e ⟨K,hq⟩ ao
  refine dit (λB=>?_) λB=>?_
  .let⟨f,i⟩:=cG s.ao y;refine(ER (ae.ext (o.trans K)) (x.ext (o.trans K)) G i).aH K k λS m9 F au A=>⟨S,rfl,λu=>h A λe=>nb F u (e.ao y f i),λu=>ao V _ ⟨A,λj ag v Q=>?_⟩⟩;rcases aW j y with Y|Y
   .exact hq j ag Y Q
   .have:j=y:=V;subst this;rw[i]at Q;simp at Q;subst Q;exact yb F u
  .have Q:∀(j:Nat)(f:aX),s.ao[j]? =some f->Kl a s.heap (nA s.ao j) f:=λj f i=>hq j f (oh (av i)) i;have Y:SH s.heap s.ao:=⟨λf i=>by
    let⟨j,v⟩:=vT i;have L:=(Q j f v).lr;have N:=(Q j f v).lo;omega,λf i=>let⟨j,v⟩:=vT i;(Q j f v).ak⟩
   refine(Ir (x.ext (o.trans K)) G ab).aH K k λS m9 F au A=>⟨S,rfl,λu=>?_,λu=>h A λe=>fb F u e.ba⟩;refine(CC (x.ext (o.trans A)) G ab Y ad.cells).aH A k λv ax ag az ap=>⟨v,rfl,eU ?_ (o.trans ap)⟩;rw[ag];exact⟨λU=>Ma ⟨hi,an,aj,hv,T,al,ah,ai,am,ad,Q,F.1 u,U⟩,λe=>(Oj e).QE⟩
end
end
section
variable{m:E}{b:List bM}{w:Int}{d:bM}{a:Nat}{W:List Nat}
def qP(n:Int)(m:E):dt cp 76 [vi n] m (gL n):=by
 apply HI;refine⟨λb=>eU ?_ (J.az _),λb=>bW (λa=>?_) (J.az _)⟩
 .simp at b;simp[gL,b]
 .simp at b;have:=a.1;omega
def FU{f:O}(d:cW m f b)(j:Hp w):dt cp 196 [O.v f,vi w] m (qB b w):=by
 apply zR;refine(ij d j.2).mono ?_;rintro _ k ⟨a,h,rfl,e,_,g⟩;refine⟨a,h,rfl,λc=>iO (Or.inr (e.1 c)) g,λc=>?_⟩;refine(qP w k).then λb2 n i l=>⟨b2,rfl,eU ?_ (g.trans l)⟩;rw[i];exact⟨Or.inl,λd=>d.resolve_right (fb e c)⟩
structure I9(b:List bM)(d:bM):Prop where
 lo: -1<=d.aP
 j9:0<=d.j9/\d.j9<=99
 fl:d.aE.length<=3
 wM:d.aP<1->d.j9=0
 iZ:d.aP=0->d.aE=[]
 cL:∀w∈d.aE,qB b w/\(d.aP<0->w=0)
def I9.ok(a:I9 b d)(e:d.aP<=999999):ou b d:=
 ⟨a.fl,a.lo,e,λhd=>⟨a.wM hd,λw c=>by
  by_cases f:d.aP<0
  .exact(a.cL w c).2 f
  .rw[a.iZ V]at c;simp at c,a.iZ⟩,λ_=>⟨λw c=>(a.cL w c).1,a.j9⟩⟩
def ou.v(a:ou b d):I9 b d:=by
 refine⟨a.lo,?_,a.fl,λhd=>(a.wM hd).1,λf=>(a.wM V).2.2 f,λw e=>⟨?_,λg=>(a.wM V).2.1 w e⟩⟩
 .by_cases c:0<d.aP
  .exact(a.oP c).2
  .have:=(a.wM V).1;omega
 .by_cases c:0<d.aP
  .exact(a.oP c).1 w e
  .have:=(a.wM V).2.1 w e;exact Or.inl (by subst this;exact⟨bh,bh⟩)
def I9.cases(c:I9 b d)(e:w∈d.aE):fY b w\/w<1000:=by
 rcases(c.cL w e).1 with a|a
 .have:=a.2;exact Or.inr V
 .exact Or.inl a
def FH{z j:O}(E:cW m z b)(x:ap m j d.aE)(G:∀w∈d.aE,Hp w):dt cp 152 [O.v z,.agg #[vi d.aP,vi d.j9,O.v j]] m (I9 b d):=by
 apply zK;simp -zeta only[aC,aB];intro e;have f:J m e:=(J.az m).aK _;have N:e.size=m.size+1:=by simp[e]
 clear_value e;have y:=x.len;have F:∀C∈[m.size],C<e.size:=bE;refine⟨λk=>bW (λc=>by have:=c.lo;simp at k;omega) f,λk=>⟨λl=>bW (λc=>by have:=c.j9;simp at l;omega) f,λl=>⟨λo=>bW (λc=>by have:=c.j9;simp at o;omega) f,λo=>⟨λr=>bW (λc=>by have:=c.fl;simp at r;omega) f,λr=>?_⟩⟩⟩⟩;simp at k l o r;refine⟨λM=>M=e/\(d.aP<1->d.j9=0)/\(d.aP=0->d.aE=[]),?_,?_⟩
 .have zero:(d.aP<1->d.j9=0)->((d.aP==(0:Int))=true->((decide ((j.len:Int)>(0:Int)))=true->∃a:Bool,vb false=.bool a/\(a=true<->I9 b d)/\J m e)/\
   ((decide ((j.len:Int)>(0:Int)))=false->e=e/\(d.aP<1->d.j9=0)/\(d.aP=0->d.aE=[])))/\((d.aP==(0:Int))=false->e=e/\(d.aP<1->d.j9=0)/\(d.aP=0->d.aE=[])):=λh=>
   ⟨λg=>⟨λa=>bW (λc=>by have:=c.iZ (by simpa using g);rw[this]at y;simp at a y;omega) f,λa=>⟨rfl,h,λ_=>List.length_eq_zero_iff.1 (by simp at a;omega)⟩⟩,λg=>⟨rfl,h,λa=>by simp at g;exact absurd a g⟩⟩
  refine⟨λg=>⟨λa=>bW (λc=>by have:=c.wM (by simpa using g);simp at a;exact a this) f,λa=>zero λ_=>by simpa using a⟩,λg=>zero λa=>by simp at g;omega⟩
 .rintro H ⟨rfl,hd,D⟩;refine dU (n:=d.aE.length) V (λv h=>J H h/\∀w∈d.aE.take v,qB b w/\(d.aP<0->w=0)) ⟨J.az _,aL⟩ ?_;rintro v L I μ K ⟨q,u⟩ B
  refine dit (λg=>?_) λg=>?_
  .let⟨w,h⟩:=cG d.aE v;refine⟨V,V,w,by simpa using(x.ext (f.trans q)).aF h,(FU (cW.ext (f.trans q) E) (G w (aq h))).aH q F λb4 A t P p=>⟨b4,rfl,λa=>bW (λc=>nb t a (c.cL w (aq h)).1) (f.trans p),λa=>⟨λs=>⟨λi=>bW (λc=>?_) (f.trans p),λi=>B V A ⟨p,bB h u ⟨yb t a,λ_=>by simpa using i⟩⟩⟩,λs=>B V A ⟨p,bB h u ⟨yb t a,λi=>by simp at s;omega⟩⟩⟩⟩⟩;have:=(c.cL w (aq h)).2 (by simpa using s);simp at i;exact i this
  .exact iO ⟨k,⟨l,o⟩,V,hd,D,db V u⟩ (f.trans q)
def hO(mk:Nat->Bool):Nat->List bM->Nat->Int
 |_,[],_=>0
 |i,d::b,a=>(if mk i=true then 0 else eC d.aE a)+hO mk (i+1) b a
def Ee:∀(i:Nat)(b:List bM)(a:Nat),hO (λ_=>false) i b a=eu b a
 |_,[],_=>rfl
 |i,d::b,a=>by simp[hO,eu,Ee (i+1) b a]
def Gd(mk:Nat->Bool):∀(i:Nat)(b:List bM)(a:Nat),0<=hO mk i b a
 |_,[],_=>dg 0
 |i,d::b,a=>by have:=Gd mk (i+1) b a;have:=iD d.aE a;simp only[hO];split<;>omega
def PR(mk:Nat->Bool):∀(i:Nat)(b:List bM)(a:Nat),hO mk i b a<=eu b a
 |_,[],_=>dg 0
 |i,d::b,a=>by have:=PR mk (i+1) b a;have:=iD d.aE a;simp only[hO,eu];split<;>omega
def Js{mk e:Nat->Bool}:∀{i:Nat}{b:List bM}{a:Nat},(∀j,i<=j->mk j=e j)->hO mk i b a=hO e i b a
 |_,[],_,_=>rfl
 |i,d::b,a,c=>by simp only[hO];rw[c i (ad _),Js λj f=>c j V]
def NH{mk:Nat->Bool}:∀{e:Nat}{b:List bM}{f:Nat}{d:bM},b[f]? =some d->mk (e+f)=false->∀a,hO (mL mk (e+f)) e b a=hO mk e b a -eC d.aE a
 |_,[],_,_,b,_,_=>by simp at b
 |e,m::b,0,d,j,l,a=>by
  simp at j;subst j;have g:=Js (mk:=mL mk e) (e:=mk) (i:=e+1) (b:=b) (a:=a) λo n=>pN V;rw[jF]at l⊢;simp only[hO,BT,l,g];simp;omega
 |e,m::b,f+1,d,j,l,a=>by
  have g:e+(f+1)=e+1+f:=V;have:=NH (mk:=mk) (e:=e+1) (b:=b) (f:=f) (d:=d) (by simpa using j) (by rw[<-g];exact l) a;simp only[hO];rw[g,this,pN V];omega
def PQ{mk:Nat->Bool}:∀{e:Nat}{b:List bM}{j:Nat}{d:bM},b[j]? =some d->mk (e+j)=false->∀a,eC d.aE a<=hO mk e b a
 |_,[],_,_,b,_,_=>by simp at b
 |e,l::b,0,d,f,g,a=>by
  simp at f;subst f;have:=Gd mk (e+1) b a;simp only[jF]at g;simp only[hO,g];simp;omega
 |e,l::b,j+1,d,f,g,a=>by
  have:=PQ (mk:=mk) (e:=e+1) (b:=b) (j:=j) (d:=d) (by simpa using f) (by rw[<-g];congr 1;omega) a;have:=iD l.aE a;simp only[hO];split<;>omega
def NG{mk:Nat->Bool}:∀{i:Nat}{b:List bM}{a:Nat},0<hO mk i b a->∃(k:Nat)(d:bM),b[k]? =some d/\mk (i+k)=false/\(1000+(a:Int))∈d.aE
 |_,[],_,b=>by simp[hO]at b
 |i,c::b,a,g=>by
  simp only[hO]at g;by_cases f:mk i=false/\0<eC c.aE a
  .exact⟨0,c,rfl,f.1,OF f.2⟩
  .have:0<hO mk (i+1) b a:=by
    have:=iD c.aE a;split at g
    .omega
    .rename_i h;have:¬0<eC c.aE a:=λe=>f ⟨by simpa using h,e⟩;omega
   let⟨k,d,h,e,j⟩:=NG this;exact⟨k+1,d,by simpa using h,by rw[<-e];congr 1;omega,j⟩
def SS(b:List bM)(mk:Nat->Bool):Prop:=
 ∃t:Nat->Nat,(∀j,mk j=true->t j<=mE mk b.length)/\∀(i:Nat)(d:bM),b[i]? =some d->∀w∈d.aE,1000<=w->mk (ix w)=true->mk i=true/\t i<t (ix w)
def SS.set{mk:Nat->Bool}(u:SS b mk)(t:a<b.length)(k:mk a=false)(B:hO mk 0 b a=0):SS b (mL mk a):=by
 let⟨A,n,s⟩:=u;have r:=zA k t;have v:∀(c:Nat)(d:bM),b[c]? =some d->(1000+(a:Int))∈d.aE->mk c=true:=λc d f g=>by
  cases e:mk c
  .have g1:=PQ (mk:=mk) (e:=0) f (by rw[bU];exact e) a;have g2:=uz g;omega
  .rfl
 refine⟨λx=>if x=a then mE mk b.length+1 else A x,λy o=>?_,λc d f w g q p=>?_⟩
 .simp only[r];split
  .omega
  .rename_i h;rw[pN h]at o;have:=n y o;omega
 .by_cases h:ix w=a
  .have e:=v c d f (by rw[<-h,il q];exact g);have l:c≠a:=λj=>by rw[j,k]at e;cases e
   simp only[an h,ae l];exact⟨BU e,oh (n c e)⟩
  .rw[pN h]at p;let⟨m,z⟩:=s c d f w g q p;have l:c≠a:=λj=>by rw[j,k]at m;cases m
   simp only[ae h,ae l];exact⟨BU m,z⟩
def Pp(f:Nat->Nat):∀n,∃B,∀i,i<n->f i<=B
 |0=>⟨0,λi a=>absurd a (eX _)⟩
 |n+1=>by
  let⟨B,c⟩:=Pp f n;refine⟨B+f n,λi a=>?_⟩;rcases aW i n with b|b
  .have:=c i b;omega
  .have:i=n:=V;subst this;omega
def UT{mk:Nat->Bool}(r:SS b mk)(q:∀d∈b,∀w∈d.aE,1000<=w->ix w<b.length)(o:∀a,a<b.length->hO mk 0 b a=0->mk a=true):
 mE mk b.length=b.length<->SF b:=by
 rw[KB]
 constructor
 .intro g
  let⟨t,e,c⟩:=r
  refine⟨λx=>b.length -t x,λi d h w j f=>?_⟩
  have k:=q d (aq h) w j f
  have:=(c i d h w j f (g _ k)).2
  have:=e _ (g _ k)
  have:=Fv mk b.length
  show b.length -t (ix w)<b.length -t i
  omega
 .rintro⟨h,s⟩
  let⟨B,m⟩:=Pp h b.length
  have u:∀(n i:Nat),B -h i<n->i<b.length->mk i=true:=by
   intro n;induction n with
   |zero=>intro i g;omega
   |succ n t=>
    intro i g p;refine o i p (Int.le_antisymm (Int.not_lt.1 λf=>?_) (Gd _ _ _ _));let⟨k,d,e,c,l⟩:=NG f;rw[bU]at c;have:=s k d e _ l V;rw[lA]at this;have j:=av e;have:=m k j;rw[t k V j]at c;cases c
  exactλi g=>u (B -h i+1) i V g
structure Hq(b:List bM)(mk:Nat->Bool)(W:List Nat)(lf:Nat->Int):Prop where
 Lg:W.Nodup
 un:∀a∈W,a<b.length/\mk a=false
 zero:∀a,a<b.length->(lf a=0<->(mk a=true\/a∈W))
def FZ:∀(n:Nat)(W:List Nat),W.Nodup->(∀a∈W,a<n)->W.length<=n
 |0,[],_,_=>ad _
 |0,a::_,_,b=>absurd (b a aL) (eX _)
 |n+1,W,hd,b=>by
  by_cases d:n∈W
  .have e:=FZ n (W.erase n) (hd.erase n) λa c=>by
    have:=hd.mem_erase_iff.1 c;have:=b a this.2;omega
   rw[List.length_erase_of_mem d]at e;omega
  .have:=FZ n W hd λa c=>by
    have:=b a c;have:a≠n:=λe=>d (e▸c);omega
   omega
def Hq.len{mk:Nat->Bool}{d:Nat->Int}(K:Hq b mk W d):W.length<=b.length:=FZ _ _ K.Lg λa c=>(K.un a c).1
def Hq.UX{mk:Nat->Bool}{f:Nat->Int}(K:Hq b mk (W++[a]) f):Hq b (mL mk a) W f:=by
 let⟨g,i,h⟩:=List.nodup_append.1 K.Lg;refine⟨g,λx c=>?_,λx c=>?_⟩
 .have d:=K.un x (bI _ c);refine⟨d.1,?_⟩;rw[pN λe=>h x c a aL e];exact d.2
 .rw[K.zero x c];by_cases e:x=a
  .subst e;simp[BT]
  .rw[pN e];simp[e]
def Hq.kD{mk:Nat->Bool}{g lf':Nat->Int}(K:Hq b mk W g)(i:a<b.length)(j:∀x,lf' x=if x=a then g x -1 else g x)(l:0<g a):
 (lf' a=0->Hq b mk (W++[a]) lf')/\(lf' a≠0->Hq b mk W lf'):=by
 have f:mk a≠true/\a∉W:=by
  have:=(K.zero a i).2;constructor
  .intro d;have:=this (Or.inl d);omega
  .intro d;have:=this (Or.inr d);omega
 refine⟨λh=>⟨?_,λx c=>?_,λx c=>?_⟩,λh=>⟨K.Lg,K.un,λx c=>?_⟩⟩
 .rw[List.nodup_append]
  refine⟨K.Lg,aL,λx c y k e=>?_⟩
  simp at k;subst k;subst e;exact f.2 c
 .rcases List.mem_append.1 c with c|c
  .exact K.un x c
  .simp at c;subst c;exact⟨i,by simpa using f.1⟩
 .by_cases e:x=a
  .subst e;simp[h]
  .rw[j x,ae e,K.zero x c];simp[e]
 .by_cases e:x=a
  .subst e
   constructor
   .intro d;exact absurd d h
   .rintro(d|d)
    .exact absurd d f.1
    .exact absurd d f.2
  .rw[j x,ae e,K.zero x c]
end
section
variable{b:Nat->Nat}{m:E}{k c a:Nat}{s:O}{d:Nat->Int}
def UH(W:List Nat):List Int:=W.map λ(a:Nat)=>(a:Int)
def Kd(W:List Nat):(UH W).length=W.length:=by simp[UH]
def KE(W:List Nat)(a:Nat):UH (W++[a])=UH W++[(a:Int)]:=by simp[UH]
def VO(h:iG b m aA 1 k s ((sQ c d).map Ce.i))(g:c<=9223372036854775807)(e:a<c):af m s.D (s.off+Int.toNat (a:Int)*1)=some (vi (d a)):=by
 have:=(h.nJ (by rw[nY];exact g)).aF (uN (f:=d) e);simpa using this
def TY(h:iG b m aA 1 k s ((sQ c d).map Ce.i)):s.len=c:=by have:=h.len;simp[nY]at this;omega
def Xc{g:Nat->Int}(h:iG b m aA 1 k s ((sQ c d).map Ce.i))(q:a<c){v:Int}(o:∀e,e<c->g e=if e=a then v else d e)(p:∀e,m.size<=e->b e=0):
 fK m s.D (s.off+Int.toNat (a:Int)*1) 1/\iG b (ah m s.D (s.off+Int.toNat (a:Int)*1) [.i v]) aA 1 k s ((sQ c g).map Ce.i)/\dp (λj=>j=k) b m b (ah m s.D (s.off+Int.toNat (a:Int)*1) [.i v]):=by
 have f:(0:Int)<=(a:Int):=V
 have i:(a:Int)<((sQ c d).length:Nat):=by rw[nY];omega
 have j:=h.gR f i v
 have l:gR (sQ c d) (a:Int) v=sQ c g:=by
  unfold gR;rw[show Int.toNat (a:Int)=a by omega,RO];exact fB λe n=>(o e n).symm
 rw[l]at j
 have r:=TY h
 have t:=h.le
 exact⟨h.NQ f i,j,dp.ah p (h.D V).2 _ _⟩
def XB(m:E)(h:List bM)(v:Value)(c:E):Prop:=∃(s:O)(b:Bool),v=.tuple #[O.v s,vb b]/\(b=true<->N3 h)/\
 (b=true->∃a,s=.mk a 0 h.length h.length/\m.size<=a/\cE c a aA ((sQ h.length (eu h)).map Ce.i))/\J m c
def Cf{N:O}{h:List bM}(y:cW m N h)(aS:RX h)(bm:h.length<=1000000000):aN cp 77 [O.v N] m (XB m h):=by
 apply wR;simp -zeta only[aC,aB];have hl:=y.len;have en:Int.toNat (N.len:Int)=h.length:=V;rw[en];refine⟨V,V,V,V,?_⟩;intro m1;have x1:J m m1:=(J.az m).aK _;have B1:cE m1 m.size aA ((sQ h.length (λ_=>0)).map Ce.i):=Mc m _;clear_value m1;have no:∀{M:E},J m M->¬N3 h->XB m h (.tuple #[O.v O.nil,vb false]) M:=λT G=>⟨.nil,false,rfl,by simp[G],aL,T⟩;have am:∀c:Nat,Int.toNat (c:Int)=c:=λc=>V;simp -zeta only[O.gF,O.jB,O.mV,bU];refine dU (n:=h.length) V (λt l=>J m l/\cE l m.size aA ((sQ h.length (λa=>eu (h.take t) a)).map Ce.i)/\∀e∈h.take t,I9 h e) ⟨x1,by simpa[eu]using B1,aL⟩ ?_;rintro t m2 bu μ hi ⟨Z,B2,ai⟩ X
 have bD:=B2.lt;have h3:∀e∈h.take t,e.aE.length<=3:=λe hm=>(ai e hm).fl;refine dit (λh1=>?_) λh1=>?_
 .let⟨e,r⟩:=cG h t;have ab:=aq r;let⟨d,hf,g0,g1,g2⟩:=(cW.ext Z y).aF r;rw[am];refine⟨V,V,e.aP,g0,e.j9,g1,d,g2,?_⟩;intro L I;have o:J m2 I:=((J.az m2).aK _).ah (ad _) _ _;have s4:I.size=m2.size+1:=by simp[I,L,aw]
  clear_value I;refine(FH (cW.ext (Z.trans o) y) (hf.ext o) (aS e ab)).aH (J.az _) bE λj U S s _=>⟨j,rfl,λh2=>no ((Z.trans o).trans s) λz=>nb S h2 (z.cells e ab).v,λh2=>?_⟩;have A:=yb S h2;have be:=A.fl;have z5:=s.size;have ah:=hf.len;refine dU (n:=e.aE.length) V (λk l=>J m l/\m2.size<l.size/\ap l d e.aE/\cE l m.size aA ((sQ h.length (λa=>eu (h.take t) a+eC (e.aE.take k) a)).map Ce.i)) ⟨((Z.trans o).trans s),V,(hf.ext (o.trans s)),by simpa[eC]using(B2.ext (o.trans s))⟩ ?_;rintro k p aa ν z ⟨K,z6,D,l⟩ Q;refine dit (λh4=>?_) λh4=>?_
  .let⟨w,H⟩:=cG e.aE k;have au:=aq H;refine⟨V,V,w,by simpa using D.aF H,(ij (cW.ext K y) (aS e ab w au).2).mono ?_⟩;rintro _ q ⟨a,R,rfl,P,W,F⟩;have z7:=F.size;refine⟨F.dv bE,a,R,rfl,λC=>?_,λC=>?_⟩
   .have ag:=P.1 C;have ac:=av (bS ag).1;have e1:=W C;subst e1;have x:=l.ext F;have q1:=BP (h.take t) (ix w) h3;have q2:=ku (e.aE.take k) (ix w);have q3:=qT (h.take t) (ix w);have q4:=iD (e.aE.take k) (ix w);have q5:(h.take t).length<=h.length:=bE;have q6:(e.aE.take k).length<=3:=bE;rw[am,eR];refine⟨V,V,_,tI x ac,V,V,NO x ac,?_⟩;rw[show cT (eu (h.take t) (ix w)+eC (e.aE.take k) (ix w)+1)=eu (h.take t) (ix w)+eC (e.aE.take k) (ix w)+1 from aQ V V];have B:=IV x (ix w) (eu (h.take t) (ix w)+eC (e.aE.take k) (ix w)+1);rw[fB (g:=λa=>eu (h.take t) a+eC (e.aE.take (k+1)) a)]at B
    .refine⟨λj S=>bd _ _ _ _ (by simp at S;omega),Q V _ ⟨(K.trans F).ah (ad _) _ _,by rw[aw];omega,?_,B⟩⟩;obtain⟨f0,aR,_,_,w2⟩:=y.aF r;have er:f0=d:=by have:=Z.af w2;rw[g2]at this;exact(O.BA.1 (jK this)).symm
     subst er;exact aR.ext ((K.trans F).ah (ad _) _ _)
    .intro j S;rw[rj H];by_cases u:j=ix w
     .subst u;rw[an rfl,an (il ag.1).symm];omega
     .rw[ae u,ae (λY=>u (by rw[Y,lA]))];omega
   .refine Q V q ⟨K.trans F,V,D.ext F,?_⟩;have bj:w<1000:=(A.cases au).resolve_left (fb P C);rw[fB (g:=λa=>eu (h.take t) a+eC (e.aE.take k) a)]
    .exact l.ext F
    .intro j S;rw[rj H,ae V];omega
  .have x:e.aE.take k=e.aE:=bY V;rw[x]at l;refine X V p ⟨K,?_,bB r ai A⟩
   rw[fB (g:=λa=>eu (h.take t) a+eC e.aE a)]
   .exact l
   .intro j S;exact NJ r j
 have ei:h.take t=h:=bY V;rw[ei]at B2 ai h3;clear X
 have a1:∀e∈h,∀w∈e.aE,fY h w\/w<1000:=λe s w H=>(ai e s).cases H;have ag:∀e∈h,∀w∈e.aE,1000<=w->ix w<h.length:=λe hm w H N=>by
  rcases a1 e hm w H with h1|h1
  .exact av (bS h1).1
  .omega
 refine⟨λM=>m2=M/\nV h,⟨λh2=>?_,λh2=>⟨rfl,λe s=>?_⟩⟩,?_⟩
 .simp at h2;rw[aQ V V];let⟨e,s⟩:=cG h (h.length -1);obtain⟨d,hf,g1,_,_⟩:=(cW.ext Z y).aF s;have u:Int.toNat ((N.len:Int) -1)=h.length -1:=V;rw[u];refine⟨V,V,e.aP,g1,λh3=>no Z λz=>z.jz e s (by simpa using h3),λh3=>⟨rfl,λak hd=>?_⟩⟩;rw[s]at hd;simp at hd;subst hd;simpa using h3
 .have:=av s;simp at h2;omega
 rintro _ ⟨rfl,bn⟩;refine(eN (OU B2 V) (by rw[nY];exact bm)).mono ?_;rintro _ L ⟨A,rfl,or,x3⟩;have z3:=x3.size;have B3:=B2.ext x3;have bI:=Z.size;obtain⟨B,aH⟩:∃B:Nat->Nat,B=λj=>if A.FV=false/\j=A.D then 2 else if j=m.size then 1 else 0:=⟨_,rfl⟩
 have aF:A.FV=false->m2.size<=A.D/\A.D<L.size:=λG=>by
  have ah:A≠.nil:=λu=>by rw[u]at G;simp at G
  exact⟨or.D.resolve_left ah,or.lt.resolve_left ah⟩
 have aV:∀j,j≠m.size->(A.FV=false->j≠A.D)->B j=0:=λj h4 C=>by
  rw[aH];exact(ae λy=>C y.1 y.2).trans (ae h4)
 have bs:B m.size=1:=by
  rw[aH];exact(ae λy=>oh (aF y.1)).trans (an rfl)
 have bp:∀j,L.size<=j->B j=0:=λj S=>aV j V λG=>by have:=aF G;omega
 have a_:∀j,j<m.size->B j=0:=λj S=>aV j V λG=>by have:=aF G;omega
 have A3:iG B L aA 1 2 A ((sQ h.length (eu h)).map Ce.i):=iG.gA or λah=>by
  rw[aH];refine an ⟨?_,rfl⟩;cases A with
  |nil=>exact absurd rfl ah
  |_=>rfl
 have bA:=TY A3;clear aF aV aH;have aJ:∀{b a6:Nat->Nat}{M M':E},dp (λk=>k=2\/k=6) b M a6 M'->To b M a6 M':=λs=>s.mono λk z=>V;have aM:∀{b:Nat->Nat}{M:E},dp (λk=>k=2\/k=6) B L b M->J m M:=λs=>((aJ s).cy (Z.trans x3) a_).1;have a5:∀{b:Nat->Nat}{M:E},dp (λk=>k=2\/k=6) B L b M->cE M m.size aA ((sQ h.length (eu h)).map Ce.i):=λs=>B3.congr (s.eB _ B3.lt (by rw[bs];decide));have bq:iG B L aA 1 6 .nil (([]:List Int).map Ce.i):=⟨aL,aL,Or.inl rfl⟩;refine⟨A,rfl,eA (σ:=O) (n:=h.length) V (λk P M=>∃b W,dp (λk=>k=2\/k=6) B L b M/\iG b M aA 1 2 A ((sQ h.length (eu h)).map Ce.i)/\iG b M aA 1 6 P ((UH W).map Ce.i)/\W.Nodup/\(∀a∈W,a<k)/\(∀a,a<k->(eu h a=0<->a∈W))/\
  ∀(a:Nat)(e:bM),a<k->h[a]? =some e->0<e.aP->eu h a<=e.aP/\e.aP<=999999) ⟨B,[],dp.az _ bp,A3,bq,aL,aL,aL,aL⟩ ?_⟩
 rintro k P I I2 μ2 z ⟨Y,W,C4,A4,W4,ao,aj,aI,aE⟩ X
 have X4:=aM C4;refine dit (λh4=>?_) λh4=>?_
 .have al:k<h.length:=V;let⟨e,aa⟩:=dB al;let⟨d,hf,g0,g1,g2⟩:=(cW.ext X4 y).aF aa;rw[am];refine⟨V,V,e.aP,g0,e.j9,g1,d,g2,?_⟩;intro U p;have K:J I p:=((J.az I).aK _).ah (ad _) _ _;have s6:p.size=I.size+1:=by simp[p,U,aw]
  clear_value p;have ax:dp (λk=>k=2\/k=6) Y I Y p:=dp.eH _ K C4.new;have C6:=C4.trans ax;have F6:dp (λ_=>False) Y I Y p:=dp.eH _ K C4.new;have A6:=A4.eI F6 id;have W6:=W4.eI F6 id;have g6:=tI (a5 C6) al;have gY:(0<e.aP->eu h k<=e.aP/\e.aP<=999999)->∀(a:Nat)(e:bM),a<k+1->h[a]? =some e->0<e.aP->eu h a<=e.aP/\e.aP<=999999:=λG a ak o hd=>by
   rcases aW a k with Q|Q
   .exact aE a ak Q hd
   .have:a=k:=V;subst this;rw[aa]at hd;simp at hd;subst hd;exact G
  have jN:(0<e.aP->eu h k<=e.aP/\e.aP<=999999)->((0:Int)<=k/\(k:Int)<(h.length:Int)/\∃r:Int,af p m.size (k*1)=some (vi r)/\
   ((r==(0:Int))=true->let x:E:=p.push (.cells (bt [.i (k:Int)]) 3)
    jL x 3 [.i (0:Int)] 8 P (O.mk p.size 0 1 1) λD l=>eG [I.size] x l/\I2 D (cT ((k:Int)+(1:Int))) l/\μ2 D (cT ((k:Int)+(1:Int))) l<μ2 P k I)/\
   ((r==(0:Int))=false->I2 P (cT ((k:Int)+(1:Int))) p/\μ2 P (cT ((k:Int)+(1:Int))) p<μ2 P k I)):=λG=>by
   refine⟨V,V,_,by rw[eR];exact g6,λD=>?_,λD=>?_⟩
   .intro q
    have F:J p q:=(J.az p).aK _
    have k7:cE q p.size 3 [.i (k:Int)]:=cE.push p _ _
    have s7:q.size=p.size+1:=by simp[q]
    have F7:dp (λ_=>False) Y p Y q:=dp.eH _ F C6.new
    have C7:dp (λk=>k=2\/k=6) B L Y q:=C6.trans (dp.eH _ F C6.new)
    have ay:=W6.len
    simp[Kd]at ay
    have az:W.length<=h.length:=FZ _ _ ao λa o=>by have:=aj a o;omega
    refine iG.append (zs:=[.i 0]) (c:=[.i (k:Int)]) (W6.eI F7 id) C7.new aL k7.iB (by simp only[O.gF];omega) λr a4 m8 a8 c8=>⟨(aJ (c8.mono λl hj=>Or.inr hj)).dv (by simp;exact⟨V,C4.new _ (ad _)⟩),?_⟩
    refine X V _ _ ⟨r,W++[k],C7.trans (c8.mono λl hj=>Or.inr hj),(A6.eI F7 id).eI c8 bh,by rw[KE];simpa using a8,?_,λa o=>?_,λa o=>?_,gY G⟩
    .rw[List.nodup_append]
     refine⟨ao,aL,λx T aD R u=>?_⟩
     simp at R;subst R;subst u;have:=aj _ T;omega
    .rcases List.mem_append.1 o with o|o
     .have:=aj a o;omega
     .simp at o;omega
    .rcases aW a k with R|R
     .rw[aI a R];simp;omega
     .have:a=k:=V
      subst this
      simp at D;simp[D]
   .refine X V _ _ ⟨Y,W,C6,A6,W6,ao,λa o=>oh (aj a o),λa o=>?_,gY G⟩
    rcases aW a k with R|R
    .exact aI a R
    .have:a=k:=V
     subst this
     simp at D
     simp only[D,false_iff]
     intro hm;have:=aj _ hm;omega
  refine⟨λC=>⟨V,V,_,by rw[eR];exact g6,λQ=>no (X4.trans K) λz=>?_,λQ=>⟨λD=>no (X4.trans K) λz=>?_,λD=>jN λ_=>by simp at Q D;omega⟩⟩,λC=>jN λQ=>by simp at C;omega⟩
  .have:=z.eu k e aa (by simpa using C);simp at Q;omega
  .have:=(z.cells e (aq aa)).hi;simp at D;omega
 have bf:k=h.length:=V;subst bf;clear X h4
 have bc:∀e∈h,ou h e:=λe s=>by
  let⟨a,o⟩:=List.mem_iff_getElem?.1 s;refine(ai e s).ok ?_;rcases I6 0 e.aP with N|N
  .exact(aE a e (av o) o N).2
  .omega
 have bl:∀(a:Nat)(e:bM),h[a]? =some e->0<e.aP->eu h a<=e.aP:=λa e o N=>(aE a e (av o) o N).1;have bi:∀mk a,hO mk 0 h a<=3*h.length:=λmk a=>by
  have:=PR mk 0 h a;have:=BP h a λe hm=>(ai e hm).fl;omega
 have K0:Hq h (λ_=>false) W (hO (λ_=>false) 0 h):=⟨ao,λa o=>⟨aj a o,rfl⟩,λa o=>by rw[Ee,aI a o];simp⟩;have c0:mE (λ_=>false) h.length=0:=by
  generalize h.length=c;induction c with
  |zero=>rfl
  |succ c K=>simp[mE,K]
 refine RQ (γ:=(Nat->Bool)×List Nat) (λK P a3 M=>∃b,a3=(mE K.1 h.length:Nat)/\dp (λk=>k=2\/k=6) B L b M/\iG b M aA 1 2 A ((sQ h.length (hO K.1 0 h)).map Ce.i)/\iG b M aA 1 6 P ((UH K.2).map Ce.i)/\Hq h K.1 K.2 (hO K.1 0 h)/\SS h K.1)
  (λK=>h.length -mE K.1 h.length) (λ_=>false,W) ⟨Y,by rw[c0];rfl,C4,by rw[fB (g:=eu h) λj _=>Ee 0 h j];exact A4,W4,K0,λ_=>0,aL,aL⟩ ?_
 clear C4 A4 W4 K0 c0 X4 ao aj aI aE;rintro⟨mk,W⟩ P a3 U I3 μ3 ⟨aa,rfl,C5,A5,W5,K5,O5⟩ X
 simp only at A5 W5 K5 O5 X
 have X5:=aM C5;have ay:=W5.len;simp[Kd]at ay;have bv:=K5.len;refine⟨λC=>?_,λC=>?_⟩
 .simp only[kG,ar]at C;have ah:W≠[]:=λu=>by subst u;simp at ay;omega
  obtain⟨W',a,rfl⟩:∃W' a,W=W'++[a]:=⟨W.dropLast,W.getLast ah,(fq ah).symm⟩;rw[KE]at W5;let⟨p1,p2,p3⟩:=W5.UX;rw[Kd]at p1 p2 p3;have e1:cT ((P.len:Int) -1)=(W'.length:Int):=by rw[aQ V V];omega
  let⟨az,aP⟩:=K5.un a aL;let⟨e,aD⟩:=dB az;have ab:=aq aD;have be:=(ai e ab).fl;let⟨d,hf,g0,g1,g2⟩:=(cW.ext X5 y).aF aD;rw[e1,am];have bC:=W5.le;refine⟨V,V,a,p2,V,V,?_⟩;rw[am];refine⟨e.aP,g0,e.j9,g1,d,g2,?_⟩;intro p q;have F:J U q:=((J.az U).aK _).ah (ad _) _ _;have s7:q.size=U.size+1:=by simp[q,p,aw]
  clear_value q;have F7:dp (λ_=>False) aa U aa q:=dp.eH _ F C5.new;have C7:dp (λk=>k=2\/k=6) B L aa q:=C5.trans (dp.eH _ F C5.new);have bx:=hf.len;have hz:hO mk 0 h a=0:=(K5.zero a az).2 (Or.inr aL);have O7:=O5.set az aP hz;have aT:=λx=>NH (mk:=mk) (e:=0) aD (by rw[bU];exact aP) x;simp only[bU]at aT;have es:=zA aP az;have bw:=Fv (mL mk a) h.length;have K7:Hq h (mL mk a) W' (λx=>hO (mL mk a) 0 h x+eC (e.aE.drop 0) x):=by
   have:=K5.UX;refine⟨this.Lg,this.un,λx T=>?_⟩;rw[<-this.zero x T,aT,List.drop_zero];constructor<;>intro h<;>omega
  refine⟨V,V,V,eA (σ:=O) (n:=e.aE.length) V (λl wk M=>∃b W2,dp (λk=>k=2\/k=6) aa q b M/\iG b M aA 1 2 A ((sQ h.length (λx=>hO (mL mk a) 0 h x+eC (e.aE.drop l) x)).map Ce.i)/\iG b M aA 1 6 wk ((UH W2).map Ce.i)/\Hq h (mL mk a) W2 (λx=>hO (mL mk a) 0 h x+eC (e.aE.drop l) x))
   ⟨aa,W',dp.az _ C7.new,?_,?_,K7⟩ ?_⟩
  .have:=A5.eI F7 id;rw[fB (g:=hO mk 0 h) λj _=>by simp only[aT,List.drop_zero];omega];exact this
  .exact p3.eI F7 id
  rintro l wk m8 I4 μ4 hj ⟨r,W2,C8,A8,W8,K8⟩ aU;have X8:=aM (C7.trans C8);have T8:=aJ C8;have r7:U.size<m8.size/\r U.size=0:=⟨by have:=C8.size;omega,by rw[C8.gU _ V];exact C5.new _ (ad _)⟩;refine dit (λQ=>?_) λQ=>?_
  .let⟨w,H⟩:=cG e.aE l;have au:=aq H;have ba:=aS e ab w au;have a2:e.aE.drop l=w::e.aE.drop (l+1):=by
    rw[qb (av H)];congr 1;exact(List.getElem?_eq_some_iff.1 H).2
   obtain⟨f0,aR,_,_,w2⟩:=y.aF aD;have er:f0=d:=by have:=X5.af w2;rw[g2]at this;exact(O.BA.1 (jK this)).symm
   subst er;refine⟨V,V,w,by simpa using(aR.ext X8).aF H,(ij (cW.ext X8 y) ba.2).mono ?_⟩;rintro _ m9 ⟨a4,b9,rfl,a0,bk,x9⟩;have z9:=x9.size;have F9:dp (λ_=>False) r m8 r m9:=dp.eH _ x9 C8.new;have C9:dp (λk=>k=2\/k=6) aa q r m9:=C8.trans (dp.eH _ x9 C8.new);have A9:=A8.eI F9 id;have W9:=W8.eI F9 id;refine⟨x9.dv bE,a4,b9,rfl,λD=>?_,λD=>?_⟩
   .have ag:=a0.1 D;have ac:=av (bS ag).1;have e9:=bk D;subst e9;have ak:∀x,eC (e.aE.drop l) x=(if x=ix w then 1 else 0)+eC (e.aE.drop (l+1)) x:=λx=>by rw[a2,iT ag.1]
    have bb:=ak (ix w);rw[an rfl]at bb;have n1:=Gd (mL mk a) 0 h (ix w);have n2:=bi (mL mk a) (ix w);have n3:=iD (e.aE.drop (l+1)) (ix w);have n4:=ku (e.aE.drop (l+1)) (ix w);have n5:(e.aE.drop (l+1)).length<=3:=bE;let⟨u1,u2,u3⟩:=Xc (d:=λx=>hO (mL mk a) 0 h x+eC (e.aE.drop l) x) (g:=λx=>hO (mL mk a) 0 h x+eC (e.aE.drop (l+1)) x) A9 ac (v:=hO (mL mk a) 0 h (ix w)+eC (e.aE.drop (l+1)) (ix w)) (λj _=>by
     rw[ak];by_cases u:j=ix w
     .subst u;rw[an rfl]
     .rw[ae u,ae u];omega) C9.new
    refine⟨V,V,_,VO A9 V ac,V,V,u1,?_⟩;rw[show cT (hO (mL mk a) 0 h (ix w)+eC (e.aE.drop l) (ix w) -1)=hO (mL mk a) 0 h (ix w)+eC (e.aE.drop (l+1)) (ix w)by rw[aQ V V];omega];intro K;have ax:dp (λk=>k=2\/k=6) aa q r K:=C9.trans (u3.mono λk z=>Or.inl z);have bG:K.size=m9.size:=aw _ _ _ _;have aK:iG r K aA 1 6 wk ((UH W2).map Ce.i):=W9.eI u3 bh;let⟨v1,v2⟩:=K8.kD (lf':=λx=>hO (mL mk a) 0 h x+eC (e.aE.drop (l+1)) x) ac (λx=>by
     rw[ak];split<;>omega) (show 0<hO (mL mk a) 0 h (ix w)+eC (e.aE.drop l) (ix w)by omega)
    have a8:To r m9 r K:=u3.mono λk z=>V;have aX:iG r K aA 1 2 A ((sQ h.length (λx=>hO (mL mk a) 0 h x+eC (e.aE.drop (l+1)) x)).map Ce.i):=u2;clear_value K;clear u2;refine⟨a8.dv (by simp;exact⟨V,r7.2⟩),V,V,_,VO aX V ac,λR=>?_,λR=>aU V _ _ ⟨r,W2,ax,aX,aK,v2 (by simpa using R)⟩⟩;intro al;have a7:J K al:=(J.az K).aK _;have bo:cE al K.size 3 [.i (ix w:Int)]:=cE.push K _ _;have bH:al.size=K.size+1:=by simp[al]
    have aZ:dp (λ_=>False) r K r al:=dp.eH _ a7 ax.new;have aY:dp (λk=>k=2\/k=6) aa q r al:=ax.trans (dp.eH _ a7 ax.new);have bg:=aK.len;simp[Kd]at bg;have bz:=K8.len;exact iG.append (zs:=[.i 0]) (c:=[.i (ix w:Int)]) (aK.eI aZ id) aY.new aL bo.iB (by simp only[O.gF];omega) λbr q2 bF a9 aO=>⟨(aJ (aO.mono λl hj=>Or.inr hj)).dv (by simp;exact⟨V,r7.2⟩),aU V _ _ ⟨br,W2++[ix w],aY.trans (aO.mono λl hj=>Or.inr hj),(aX.eI aZ id).eI aO bh,by rw[KE];simpa using a9,v1 (by simpa using R)⟩⟩
   .have bj:w<1000:=(a1 e ab w au).resolve_left (fb a0 D);have ak:∀x,eC (e.aE.drop (l+1)) x=eC (e.aE.drop l) x:=λx=>by
     rw[a2];simp only[eC];rw[ae V];omega
    refine aU V _ _ ⟨r,W2,C9,?_,W9,⟨K8.Lg,K8.un,λx T=>by rw[ak];exact K8.zero x T⟩⟩;rw[fB (g:=λx=>hO (mL mk a) 0 h x+eC (e.aE.drop l) x) λj _=>by rw[ak]];exact A9
  .have K:e.aE.drop l=[]:=I7 V;have D:∀x,hO (mL mk a) 0 h x+eC (e.aE.drop l) x=hO (mL mk a) 0 h x:=λx=>by rw[K];simp[eC]
   rw[show cT ((mE mk h.length:Nat)+1:Int)=((mE (mL mk a) h.length:Nat):Int)by rw[es,aQ V V];omega];refine X (mL mk a,W2) _ _ m8 ⟨r,rfl,C7.trans C8,?_,W8,⟨K8.Lg,K8.un,λx T=>by have:=K8.zero x T;rw[D]at this;exact this⟩,O7⟩ (by simp only[];omega)
   rw[fB (g:=λx=>hO (mL mk a) 0 h x+eC (e.aE.drop l) x) λj _=>(D j).symm];exact A8
 .simp only[kG,bL]at C;have p:W=[]:=List.length_eq_zero_iff.1 V;subst p;have q:=UT O5 ag λa o l=>((K5.zero a o).1 l).resolve_right aL;refine⟨_,_,rfl,?_,λ_=>⟨m.size,rfl,ad _,a5 C5⟩,X5⟩;rw[aG,show((mE mk h.length:Nat):Int)=(N.len:Int)<->mE mk h.length=h.length by omega,q];exact⟨λo=>⟨bn,bc,bl,o⟩,λz=>z.Mr⟩
end
section
variable{j:cO}{f:aX}{m d i:E}{r o e:O}{a b:Nat}
structure RY(j:cO)(f:aX):Prop where
 fE:0<=f.fE/\f.fE<j.cF.length
 pc:0<=f.pc/\f.pc<(dO j f.fE).dq.length
 lr:(f.ak.length:Int)=(dO j f.fE).ak
 lo:(f.aR.length:Int)=(dO j f.fE).ak
 lh:(f.ba.length:Int)=(dO j f.fE).ak
 dz:∀(k:Nat)(w o:Int),f.ak[k]? =some w->f.aR[k]? =some o->(gL w\/1000<=w)/\(0<=o/\o<=999999)
def RY.aR(h:RY j f):∀o∈f.aR,0<=o/\o<=999999:=λo b=>by
 let⟨k,a⟩:=List.mem_iff_getElem?.1 b;have:=av a;have d:=h.lr;have e:=h.lo;let⟨w,c⟩:=cG f.ak k;exact(h.dz k w o c a).2
def DT{P Y:O}(R:fw m P Y j)(K:ap m r f.ak)(z:ap m o f.aR)(he:ap m e f.ba):
 dt cp 80 [.agg #[O.v P,O.v Y],.agg #[vi f.fE,vi f.pc,vi f.dst,O.v r,O.v o,O.v e]] m (RY j f):=by
 apply yu
 simp -zeta only[aC,aB]
 intro L d
 have C:J m d:=((J.az m).aK _).aK _
 have s1:L.size=m.size+1:=by simp[L]
 have s2:d.size=m.size+2:=by simp[d,s1]
 clear_value d
 have aj:=R.cF.len
 have al:=K.len
 have ag:=z.len
 have ae:=he.len
 have am:=K.gT
 refine⟨λy=>bW (λa=>by have:=a.fE;simp at y;omega) C,λy=>⟨λD=>bW (λa=>by have:=a.fE;simp at D;omega) C,λD=>?_⟩⟩
 simp at y D
 let⟨ac,U⟩:=cG j.cF f.fE.toNat
 have h:dO j f.fE=ac:=by simp[dO,U]
 let⟨pa,pl,pc,ah,ak,aa,k0,k1,k2,k3,k4⟩:=(R.ext C).cF.aF U
 have ai:=aa.len
 refine⟨y,V,pa,k0,pl,k1,_,k2,_,k3,pc,k4,?_⟩
 intro m3 s
 have x4:J d s:=((J.az d).aK _).ah (ad _) _ _
 have s4:s.size=d.size+1:=by simp[s,m3,aw]
 clear_value s
 have c:=C.trans x4
 have hl:∀b∈[d.size,L.size,m.size],b<s.size:=bE
 refine⟨λE=>bW (λa=>by have:=a.pc;simp at E;omega) c,λE=>⟨λF=>bW (λa=>by have:=a.pc;rw[h]at this;simp at F;omega) c,λF=>⟨λG=>bW (λa=>by have:=a.lr;rw[h]at this;simp at G;omega) c,λG=>⟨λH=>bW (λa=>by have:=a.lo;rw[h]at this;simp at H;omega) c,λH=>⟨λI=>bW (λa=>by have:=a.lh;rw[h]at this;simp at I;omega) c,λI=>?_⟩⟩⟩⟩⟩
 simp at E F G H I
 refine dU (n:=f.ak.length) V (λk m'=>J s m'/\∀(g:Nat)(w o:Int),g<k->f.ak[g]? =some w->f.aR[g]? =some o->(gL w\/1000<=w)/\(0<=o/\o<=999999)) ⟨J.az _,λg w o S=>absurd S (eX _)⟩ ?_
 rintro k X Z μ a ⟨N,W⟩ ab
 refine dit (λh8=>?_) λh8=>?_
 .let⟨w,i⟩:=cG f.ak k
  let⟨t,v⟩:=cG f.aR k
  refine⟨V,V,w,by simpa using(K.ext (c.trans N)).aF i,(qP w X).aH N hl λb6 q Q an x=>⟨b6,rfl,?_⟩⟩
  have T:af q o.D (o.off+Int.toNat (k:Int)*1)=some (vi t):=by simpa using(z.ext (c.trans x)).aF v
  have jN:(gL w\/1000<=w)->(0:Int)<=k/\(k:Int)<(o.len:Int)/\∃M:Int,af q o.D (o.off+Int.toNat (k:Int)*1)=some (vi M)/\((decide (M<(0:Int)))=true->∃l:Bool,vb false=.bool l/\(l=true<->RY j f)/\J m q)/\
   ((decide (M<(0:Int)))=false->(0:Int)<=k/\(k:Int)<(o.len:Int)/\∃p:Int,af q o.D (o.off+Int.toNat (k:Int)*1)=some (vi p)/\((decide (p>(999999:Int)))=true->∃l:Bool,vb false=.bool l/\(l=true<->RY j f)/\J m q)/\
   ((decide (p>(999999:Int)))=false->Z (cT ((k:Int)+(1:Int))) q/\μ (cT ((k:Int)+(1:Int))) q<μ k X)):=λhi=>
   ⟨V,V,t,T,λp=>bW (λa=>by have:=(a.dz k w t i v).2;simp at p;omega) (c.trans x),λp=>⟨V,V,t,T,λl=>bW (λa=>by have:=(a.dz k w t i v).2;simp at l;omega) (c.trans x),λl=>ab V _ ⟨x,λg w' o' S B A=>by
    rcases aW g k with u|u
    .exact W g w' o' u B A
    .have:g=k:=V;subst this;rw[i]at B;rw[v]at A;simp at B A;subst B;subst A;simp at p l;exact⟨hi,V⟩⟩⟩⟩
  refine⟨λp=>⟨λl=>bW (λa=>?_) (c.trans x),λl=>jN (Or.inr (by simp at l;omega))⟩,λp=>jN (Or.inl (yb Q p))⟩
  rcases(a.dz k w t i v).1 with u|u
  .exact nb Q p u
  .simp at l;omega
 .refine iO ⟨V,by rw[h];omega,by rw[h];omega,by rw[h];omega,by rw[h];omega,λg w o i z=>W g w o (oh (av i)) i z⟩ (c.trans N)
structure Jx(a b:Nat)(m m':E):Prop where
 size:m.size<=m'.size
 same:∀c,c<m.size->c≠a->c≠b->m'[c]? =m[c]?
def Jx.az(a b:Nat)(m:E):Jx a b m m:=⟨ad _,λ_ _ _ _=>rfl⟩
def Jx.ext{g:E}(h:Jx a b m g)(f:J g d):Jx a b m d:=⟨bH h.size f.size,λc e i j=>by rw[f.same c (aO e h.size)];exact h.same c e i j⟩
def Jx.trans{j:E}(h:Jx a b m j)(i:Jx a b j d):Jx a b m d:=⟨bH h.size i.size,λc g e f=>by rw[i.same c (aO g h.size) e f];exact h.same c g e f⟩
def Jx.ah{d:E}(h:Jx a b m d){c:Nat}(i:c=a\/c=b)(o:Nat)(l:List Ce):Jx a b m (ah d c o l):=
 ⟨by rw[aw];exact h.size,λx j f g=>by rw[bd l d c o (by rcases i with e|e<;>rw[e]<;>assumption)];exact h.same x j f g⟩
def Jx.uP{f:E}(h:Jx a b m f)(c:J i m)(g:i.size<=a)(j:i.size<=b):J i f:=
 ⟨bH c.size h.size,λd e=>by rw[h.same d (c.lt e) V V];exact c.same d e⟩
structure WJ(h:List bM)(f:aX):Prop where
 aR:∀(k:Nat)(w o:Int),f.ak[k]? =some w->f.aR[k]? =some o->0<o->fY h w
 ba:∀w∈f.ba,w≠0->1000<=w/\∃c,h[ix w]? =some c/\c.aP<0
def U8{w:Int}{n:Nat}(b:Hp w)(f:n<=1000000000):(0<=cT (w -1000)/\cT (w -1000)<n)<->(1000<=w/\ix w<n):=by
 let⟨c,d⟩:=b;rcases I6 w (-9223372036854774808)with a|a
 .have e:cT (w -1000)=w -1000+18446744073709551616:=by
   unfold cT;rw[IntKind.wrap_i64];omega
  unfold ix;rw[e];constructor<;>intro h<;>omega
 .unfold ix;rw[aQ V V];omega
structure Od(m:E)(ob hb n:Nat)(fo fh:Nat->Int):Prop where
 aR:cE m ob aA ((sQ n fo).map Ce.i)
 ba:cE m hb aA ((sQ n fh).map Ce.i)
 ne:ob≠hb
def ME{hp:O}{h:List bM}{p c:Nat}{l fh:Nat->Int}(x0:J i m)(hh:cW i hp h)(hr:ap i r f.ak)(B:ap i o f.aR)(he:ap i e f.ba)(ai:i.size<=p)(ah:i.size<=c)(T:Od m p c h.length l fh)
 (ag:RW f)(ay:h.length<=1000000000)(au:f.ak.length=f.aR.length/\f.ba.length=f.aR.length/\f.aR.length<=10000000)(aj:∀o∈f.aR,0<=o/\o<=999999)(ar:∀a,0<=l a/\l a<=1000000000000000)(ao:∀a,0<=fh a/\fh a<=1000000000):
 aN cp 81 [.agg #[vi f.fE,vi f.pc,vi f.dst,O.v r,O.v o,O.v e],O.v hp,O.v (.mk p 0 h.length h.length),O.v (.mk c 0 h.length h.length)] m λv D=>
  ∃b:Bool,v=vb b/\(b=true<->WJ h f)/\(b=true->Od D p c h.length (λa=>l a+de f.ak f.aR a) (λa=>fh a+eC f.ba a))/\Jx p c m D:=by
 apply wP
 simp -zeta only[aC,aB]
 intro I
 have x1:J m I:=(J.az m).aK _
 have s1:I.size=m.size+1:=by simp[I]
 clear_value I
 have aJ:=hr.len
 have aH:=B.len
 have aF:=he.len
 have aG:=hh.len
 let⟨aA,aD,aE⟩:=au
 have aM:=T.aR.lt
 have aK:=T.ba.lt
 simp -zeta only[O.gF,O.jB,O.mV,bU]
 have S:∀ac:Nat,Int.toNat (ac:Int)=ac:=λac=>V
 refine dU (n:=f.aR.length) V (λk D=>Jx p c m D/\m.size<D.size/\Od D p c h.length (λa=>l a+de (f.ak.take k) (f.aR.take k) a) (λa=>fh a+eC (f.ba.take k) a)/\(∀(j:Nat)(w o:Int),j<k->f.ak[j]? =some w->f.aR[j]? =some o->0<o->fY h w)/\
  (∀w∈f.ba.take k,w≠0->1000<=w/\∃s,h[ix w]? =some s/\s.aP<0)) ⟨(Jx.az _ _ _).ext x1,V,by simpa[de,eC]using(⟨T.aR.ext x1,T.ba.ext x1,T.ne⟩:Od I p c h.length l fh),λj w o hj=>absurd hj (eX _),aL⟩ ?_
 rintro k d az μ hk ⟨t2,z2,q,q2,p2⟩ am
 have Q:=t2.uP x0 ai ah
 rw[S,eR]
 refine dit (λh1=>?_) λh1=>?_
 .let⟨w,u⟩:=cG f.ak k
  let⟨t,C⟩:=cG f.aR k
  let⟨v,y⟩:=cG f.ba k
  have gw:∀{M:E},J i M->af M r.D (r.off+k)=some (vi w):=λH=>by simpa using(hr.ext H).aF u
  have gq:∀{M:E},J i M->af M o.D (o.off+k)=some (vi t):=λH=>by simpa using(B.ext H).aF C
  have gv:∀{M:E},J i M->af M e.D (e.off+k)=some (vi v):=λH=>by simpa using(he.ext H).aF y
  have al:=ag.2.2 v (aq y)
  have aI:=aj t (aq C)
  refine⟨V,V,t,gq Q,λM=>Jx p c d M/\m.size<M.size/\Od M p c h.length (λa=>l a+de (f.ak.take (k+1)) (f.aR.take (k+1)) a) (λa=>fh a+eC (f.ba.take k) a)/\(0<t->fY h w),⟨λW=>?_,λW=>?_⟩,?_⟩
  .have F:0<t:=by simpa using W
   refine⟨V,V,w,gw Q,(ij (cW.ext Q hh) (ag.1 w (aq u)).2).mono ?_⟩
   rintro _ m3 ⟨a,b3,rfl,N,U,z⟩
   have z3:=z.size
   refine⟨z.dv bE,a,b3,rfl,λx=>⟨false,rfl,?_,aL,t2.ext z⟩,λx=>?_⟩
   .simp only[jm,false_iff]
    exactλht=>nb N x (ht.aR k w t u C F)
   have L:=yb N x
   have P:=av (bS L).1
   have K:=U (by simpa using x)
   subst K
   have A:=q.aR.ext z
   have R:=q.ba.ext z
   have q1:=Gc (ak:=f.ak.take k) (aR:=f.aR.take k) (n:=999999) V (λo B=>aj o (dA B)) (ix w)
   have X:(f.aR.take k).length<=10000000:=bE
   have Y:=ar (ix w)
   rw[S,eR]
   refine⟨V,V,_,tI A P,V,V,NO A P,?_⟩
   rw[show cT (l (ix w)+de (f.ak.take k) (f.aR.take k) (ix w)+t)=l (ix w)+de (f.ak.take k) (f.aR.take k) (ix w)+t from aQ V V]
   have G:=IV A (ix w) (l (ix w)+de (f.ak.take k) (f.aR.take k) (ix w)+t)
   rw[fB (g:=λa=>l a+de (f.ak.take (k+1)) (f.aR.take (k+1)) a)]at G
   .exact⟨λb Z=>bd _ _ _ _ (by simp at Z;omega),((Jx.az _ _ _).ext z).ah (Or.inl rfl) _ _,by rw[aw];omega,⟨G,R.congr (bd _ _ _ _ λe=>q.ne e.symm),q.ne⟩,λ_=>L⟩
   .intro b c
    rw[tq u C]
    by_cases e:b=ix w
    .subst e;rw[an rfl,an (il L.1).symm];omega
    .rw[ae e,ae (λab=>e (by rw[ab,lA]))];omega
  .have F:t=0:=by simp at W;omega
   refine⟨Jx.az _ _ _,z2,⟨?_,q.ba,q.ne⟩,λhp=>V⟩
   rw[fB (g:=λa=>l a+de (f.ak.take k) (f.aR.take k) a)]
   .exact q.aR
   .intro b c;rw[tq u C,F];split<;>omega
  rintro m3 ⟨t3,z3,z,ax⟩
  have F:=t2.trans t3
  have R:=F.uP x0 ai ah
  have gY:∀(j:Nat)(w o:Int),j<k+1->f.ak[j]? =some w->f.aR[j]? =some o->0<o->fY h w:=λj w' o' hj P N=>by
   rcases aW j k with A|A
   .exact q2 j w' o' A P N
   .have:j=k:=V;subst this;rw[u]at P;rw[C]at N;simp at P N;subst P;subst N;exact ax
  have aa:=U8 (n:=h.length) al ay
  refine⟨V,V,v,gv R,λx=>⟨V,V,v,gv R,?_⟩,λx=>?_⟩
  .have X:v≠0:=by simpa using x
   have ad:∀{M:E},Jx p c m M->¬(1000<=v/\∃s,h[ix v]? =some s/\s.aP<0)->∃b:Bool,vb false=vb b/\(b=true<->WJ h f)/\(b=true->Od M p c h.length (λa=>l a+de f.ak f.aR a) (λa=>fh a+eC f.ba a))/\Jx p c m M:=λht hn=>
    ⟨false,rfl,by simp only[jm,false_iff];exactλhk=>hn (hk.ba v (aq y) X),aL,ht⟩
   refine⟨λL=>ad F λ⟨g1,s,g2,_⟩=>?_,λL=>⟨λY=>ad F λ⟨g1,s,g2,_⟩=>?_,λY=>?_⟩⟩
   .have:=(aa.2 ⟨g1,av g2⟩).1;simp at L;omega
   .have:=(aa.2 ⟨g1,av g2⟩).2;simp at Y;omega
   simp at L Y
   let⟨g1,g2⟩:=aa.1 ⟨L,V⟩
   have ew:cT (v -1000)=(ix v:Nat):=by have:=al.2;unfold ix;rw[aQ V V];omega
   rw[ew,S]
   let⟨s,hc⟩:=dB g2
   obtain⟨cf,_,c0,_,_⟩:=(cW.ext R hh).aF hc
   refine⟨V,V,s.aP,c0,λA=>ad F λ⟨_,c',U,g4⟩=>?_,λA=>?_⟩
   .rw[hc]at U;simp at U;subst U;simp at A;omega
   have q1:=ao (ix v)
   have q2:=ku (f.ba.take k) (ix v)
   have q3:=iD (f.ba.take k) (ix v)
   have q4:(f.ba.take k).length<=10000000:=bE
   rw[eR]
   refine⟨V,V,_,tI z.ba g2,V,V,NO z.ba g2,?_⟩
   rw[show cT (fh (ix v)+eC (f.ba.take k) (ix v)+1)=fh (ix v)+eC (f.ba.take k) (ix v)+1 from aQ V V]
   have G:=IV z.ba (ix v) (fh (ix v)+eC (f.ba.take k) (ix v)+1)
   rw[fB (g:=λa=>fh a+eC (f.ba.take (k+1)) a)]at G
   .refine⟨λb Z=>bd _ _ _ _ (by simp at Z;omega),am V _ ⟨F.ah (Or.inr rfl) _ _,by rw[aw];exact z3,⟨z.aR.congr (bd _ _ _ _ q.ne),G,q.ne⟩,gY,bB y p2 λ_=>⟨g1,s,hc,by simp at A;omega⟩⟩⟩
   .intro b c
    rw[rj y]
    by_cases e:b=ix v
    .subst e;rw[an rfl,an (il g1).symm];omega
    .rw[ae e,ae (λab=>e (by rw[ab,lA]))];omega
  .have X:v=0:=by simpa using x
   refine am V _ ⟨F,z3,⟨z.aR,?_,q.ne⟩,gY,bB y p2 λG=>absurd X G⟩
   rw[fB (g:=λa=>fh a+eC (f.ba.take k) a)]
   .exact z.ba
   .intro b c;rw[rj y,ae V];omega
 .have t:f.ak.take k=f.ak:=bY V
  have x:f.aR.take k=f.aR:=bY V
  have K:f.ba.take k=f.ba:=bY V
  rw[t,x,K]at q
  rw[K]at p2
  exact⟨true,rfl,by simp only[true_iff];exact⟨λj w o u B=>q2 j w o (oh (av u)) u B,p2⟩,λ_=>q,t2⟩
end
section
def Wy(a:List aX)(k:Nat)(f:aX):Prop:=(nA a k=none->f.dst=0)/\∀p,nA a k=some p->0<=f.dst/\f.dst<p.aR.length/\aF p.aR f.dst=0
structure SJ(im:cO)(s:St)(k:Nat)(f:aX):Prop where
 v:RY im f
 dst:Wy s.ao k f
 Zf:WJ s.heap f
def SJ.ok{c:cO}{s:St}{k:Nat}{f:aX}(h:SJ c s k f):Kl c s.heap (nA s.ao k) f:=
 ⟨h.v.fE,h.v.pc,h.v.lr,h.v.lo,h.v.lh,⟨λj w o b a=>⟨(h.v.dz j w o b a).1,(h.v.dz j w o b a).2,h.Zf.aR j w o b a⟩⟩,h.dst.1,h.dst.2⟩
def Ni.w{m:cO}{s:St}(h:Ni m s){k:Nat}{f:aX}(d:s.ao[k]? =some f):SJ m s k f:=by
 have F:=h.ao k f d;refine⟨⟨F.fE,F.pc,F.lr,F.lo,F.lh,λj w o b c=>⟨(F.ak.dz j w o b c).1,(F.ak.dz j w o b c).2.1⟩⟩,⟨F.first,F.next⟩,λj w o b c=>(F.ak.dz j w o b c).2.2,λw b q=>?_⟩;let⟨g,n⟩:=(h.ba.cL f (aq d) w b).resolve_left q;let⟨e,i⟩:=dB n;refine⟨g,e,i,Int.not_le.1 λp=>?_⟩;have r:=h.ba.nj _ e i p;have t:=PF (aq d) (b:=ix w);have u:=uz (l:=f.ba) (f:=ix w) (by rw[il g];exact b);omega
section
variable{m:E}{d p aT c b:O}{a:cO}{s:St}
def DY(aS:fw m d p a)(aZ:nl a)(Q:gE m aT c b s)(ab:DH s):dt cp 44 [.agg #[O.v d,O.v p],Na s aT c b] m (cY a s):=by
 apply yy;simp -zeta only[aC,aB];intro m1 L;have x2:J m L:=((J.az m).aK _).aK _;have s1:m1.size=m.size+1:=by simp[m1]
 have s2:L.size=m.size+2:=by simp[L,s1]
 clear_value L;have hl:∀x∈[m1.size,m.size],x<L.size:=bE;have aP:=Q.ao.len;have a9:=Q.heap.len;have a_:=ab.lh;have t:∀{M:E},J L M->¬Ni a s->∃A:Bool,vb false=.bool A/\(A=true<->cY a s)/\J m M:=λhx I=>bW (λh=>I (Oj h)) (x2.trans hx);have ar:(s.ao=[])<->((b.len:Int)=0):=by rw[aP];simp
 refine⟨λM=>J L M/\(0<=s.bV/\s.bV<=3)/\(s.bV=0<->s.ao=[])/\gL s.value/\(s.value≠0->s.bV=0),?_,?_⟩
 .refine⟨λy=>t (J.az _) λi=>by have:=i.bV;simp at y;omega,λy=>⟨λv=>t (J.az _) λi=>by have:=i.bV;simp at v;omega,λv=>⟨λF=>t (J.az _) λi=>?_,λF=>?_⟩⟩⟩
  .have:=i.done;rw[ar,<-Fp]at this;rw[this]at F;cases F
  have ah:0<=s.bV/\s.bV<=3:=by simp at y v;omega
  have ag:s.bV=0<->s.ao=[]:=by rw[ar];exact(Fp _ _).1 F
  refine(qP _ _).aH (J.az _) hl λb3 m3 e C _=>⟨b3,rfl,λz=>t C λi=>nb e z i.value,λz=>⟨λf=>⟨λh=>t C λi=>?_,λh=>⟨C,ah,ag,yb e z,λ_=>by simpa using h⟩⟩,λf=>⟨C,ah,ag,yb e z,λh=>by simp at f;exact absurd f h⟩⟩⟩;have:=i.tP (by simpa using f);simp at h;exact h this
 rintro m3 ⟨C,ah,ag,hv,a2⟩;refine⟨λy=>t C λi=>by have:=i.dV;simp at y;omega,λy=>⟨λv=>t C λi=>by have:=i.dV;simp at v;omega,λv=>⟨λF=>t C λi=>by have:=i.bu;simp at F;omega,λF=>⟨λz=>t C λi=>by have:=i.bu;simp at z;omega,λz=>?_⟩⟩⟩⟩;have aV:0<=s.dV/\s.dV<=40:=by simp at y v;omega
 have aM:0<=s.bu/\s.bu<=s.dV:=by simp at F z;omega
 rw[aQ V V];refine⟨λf=>t C λi=>by have:=i.depth;simp at f;omega,λf=>?_⟩;have aN:(s.ao.length:Int)<=s.bu+1:=by simp at f;omega
 clear y v F z f;have X3:=x2.trans C;refine(Cf (Q.ext X3).heap ab.heap V).mono ?_;rintro _ m4 ⟨ct,b4,rfl,ao,a1,aE⟩;have x4:=C.trans aE;have z4:=x4.size;have z3:=C.size;refine⟨aE.dv λx H=>C.lt (hl x H),ct,b4,rfl,λy=>t x4 λi=>nb ao y i.heap,λy=>?_⟩;have ax:=yb ao y;obtain⟨ob,rfl,bb,B4⟩:=a1 (by simpa using y);have bf:=B4.lt;refine(iV (Q.ext (x2.trans x4)).aT 79 #[] #[] bh (λai=>¬gL ai) (λai _ m' hx=>?_)).aH x4 hl ?_
 .apply vR;refine(qP _ _).then λx G H x5=>⟨x,rfl,eU ?_ x5⟩;rw[<-H];simp
 intro b5 G ap aG x5;have z5:=x5.size;have bg:=aG.size;refine⟨b5,rfl,λv=>t x5 λi=>?_,λv=>?_⟩
 .let⟨ai,hx,I⟩:=ap.1 v;exact I (i.aT ai hx)
 have a0:∀Z∈s.aT,gL Z:=λZ I=>dQ λB=>by have:=ap.2 ⟨Z,I,B⟩;rw[v]at this;cases this
 have en:Int.toNat (c.len:Int)=s.heap.length:=V;rw[en];refine⟨V,V,V,V,?_⟩;intro R;have aH:J G R:=(J.az G).aK _;have s6:R.size=G.size+1:=by simp[R]
 have H6:cE R G.size aA ((sQ s.heap.length (λ_=>0)).map Ce.i):=Mc G _;clear_value R;have x6:=x5.trans aH;have X6:=x2.trans x6;have T6:Od R ob G.size s.heap.length (eu s.heap) (λ_=>0):=⟨B4.ext (aG.trans aH),H6,V⟩;have aY:m.size<=ob:=by have:=X3.size;omega
 have ak:∀Z:Nat,Int.toNat (Z:Int)=Z:=λZ=>V;have a8:s.ao.length<=41:=V;have rb:∀e,0<=eu s.heap e/\eu s.heap e<=3*s.heap.length:=λe=>⟨qT _ _,BP _ _ λo B=>(ax.cells o B).fl⟩;refine dU (n:=s.ao.length) V (λj M=>Jx ob G.size R M/\Od M ob G.size s.heap.length (λe=>eu s.heap e+fA (s.ao.take j) e) (λe=>dG (s.ao.take j) e)/\∀(q:Nat)(l:aX),q<j->s.ao[q]? =some l->SJ a s q l)
  ⟨Jx.az _ _ _,by simpa[fA,dG]using T6,λq l K=>absurd K (eX _)⟩ ?_
 rintro j W a7 μ i ⟨t7,N,al⟩ a3
 have x7:J L W:=t7.uP x6 V V;have P:=x2.trans x7;have bd:∀x∈[m1.size,m.size],x<W.size:=λx H=>x7.lt (hl x H);have z7:=x7.size;have be:=N.aR.lt;have bc:=N.ba.lt;rw[ak];refine dit (λF=>?_) λF=>?_
 .let⟨l,r⟩:=cG s.ao j;have au:=aq r;let⟨a5,a4,ac,hr,ho,U,g0,g1,g2,g3,g4,g5⟩:=Q.ao.aF r;refine⟨V,V,_,P.af g0,_,P.af g1,_,P.af g2,a5,P.af g3,a4,P.af g4,ac,P.af g5,?_⟩;intro X Y;have T:J W Y:=((J.az W).aK _).ah (ad _) _ _;have s9:Y.size=W.size+1:=by simp[Y,X,aw]
  clear_value Y;have X9:=P.trans T;have l9:∀x∈[W.size,m1.size,m.size],x<Y.size:=bE;refine(DT (aS.ext X9) (hr.ext X9) (ho.ext X9) (U.ext X9)).aH (J.az _) l9 λaJ w am D _=>⟨aJ,rfl,λz=>t ((x7.trans T).trans D) λi=>nb am z (i.w r).v,λz=>?_⟩;have hV:=yb am z;have S:=(x7.trans T).trans D;have ae:=x2.trans S;refine⟨λM=>w=M/\Wy s.ao j l,?_,?_⟩
  .have ay:(cT ((j:Int) -1)=((j -1:Nat):Int))\/j=0:=by
    rcases jY j with f|f
    .exact Or.inr f
    .exact Or.inl (by rw[aQ V V];omega)
   have jN:0<j->((decide (l.dst<(0:Int)))=true->∃A:Bool,vb false=.bool A/\(A=true<->cY a s)/\J m w)/\((decide (l.dst<(0:Int)))=false->
    (0:Int)<=(cT ((j:Int) -(1:Int)))/\(cT ((j:Int) -(1:Int)))<(b.len:Int)/\
    ∃aa:O,af w b.D (b.off+Int.toNat (cT ((j:Int) -(1:Int)))*6+4)=some (O.v aa)/\
    ((decide (l.dst>=(aa.len:Int)))=true->∃A:Bool,vb false=.bool A/\(A=true<->cY a s)/\J m w)/\
    ((decide (l.dst>=(aa.len:Int)))=false->(0:Int)<=(cT ((j:Int) -(1:Int)))/\(cT ((j:Int) -(1:Int)))<(b.len:Int)/\
    ∃u:O,af w b.D (b.off+Int.toNat (cT ((j:Int) -(1:Int)))*6+4)=some (O.v u)/\
    (0:Int)<=l.dst/\l.dst<(u.len:Int)/\∃aj:Int,af w u.D (u.off+Int.toNat l.dst*1)=some (vi aj)/\
    ((aj !=(0:Int))=true->∃A:Bool,vb false=.bool A/\(A=true<->cY a s)/\J m w)/\((aj !=(0:Int))=false->w=w/\Wy s.ao j l))):=λaL=>by
    have e1:=ay.resolve_right V
    rw[e1,ak]
    obtain⟨q,rfl⟩:∃q,j=q+1:=⟨j -1,V⟩
    have ej:q+1 -1=q:=V
    rw[ej]
    let⟨pf,aj⟩:=cG s.ao q
    let⟨pr,po,pe,aO,an,aI,y0,y1,y2,y3,y4,y5⟩:=Q.ao.aF aj
    have aK:=an.len
    have aa:nA s.ao (q+1)=some pf:=aj
    refine⟨λf=>t S λi=>?_,λf=>⟨V,V,po,ae.af y4,λh=>t S λi=>?_,λh=>⟨V,V,po,ae.af y4,by simpa using f,by simp at h;omega,aF pf.aR l.dst,?_,λu=>t S λi=>?_,λu=>⟨rfl,⟨λI=>(by rw[aa]at I;cases I),λaD hq=>?_⟩⟩⟩⟩⟩
    .have:=((i.w r).dst.2 pf aa).1;simp at f;omega
    .have:=((i.w r).dst.2 pf aa).2.1;simp at h;omega
    .simp at f h
     exact(an.ext ae).pA f V
    .have:=((i.w r).dst.2 pf aa).2.2;simp at u;exact u this
    .rw[aa]at hq;simp at hq;subst hq
     simp at f h u;exact⟨f,V,u⟩
   refine⟨λf=>⟨λh=>t S λaz=>?_,λh=>⟨λu=>by simp at f u;omega,λu=>⟨rfl,⟨λ_=>by simpa using h,λaD hq=>?_⟩⟩⟩⟩,λf=>⟨λh=>jN (by simp at h;omega),λh=>by simp at f h;omega⟩⟩
   .simp at f;subst f;have:=(az.w r).dst.1 rfl;simp at h;exact h this
   .simp at f;subst f;simp[nA]at hq
  .rintro _ ⟨rfl,hD⟩;have aU:=ab.lr l au;have v1:=hV.lr;have v2:=hV.lo;have v3:=hV.lh;have vw:=D.size;have aI:Od w ob G.size s.heap.length (λe=>eu s.heap e+fA (s.ao.take j) e) (λe=>dG (s.ao.take j) e):=⟨N.aR.ext (T.trans D),N.ba.ext (T.trans D),N.ne⟩;have aR:∀e,0<=eu s.heap e+fA (s.ao.take j) e/\eu s.heap e+fA (s.ao.take j) e<=1000000000000000:=λe=>by
    have q1:=rb e;have q2:=Kg (a:=s.ao.take j) (n:=10000000) (k:=999999) V (λaa u=>⟨(ab.lr aa (dA u)).2.1,by
     let⟨q,K⟩:=List.mem_iff_getElem?.1 u;have aj:q<j:=by have:=av K;simp at this;omega
     rw[dH aj]at K;exact(al q aa aj K).v.aR⟩) e
    have q3:(s.ao.take j).length<=41:=bE;omega
   have aO:∀e,0<=dG (s.ao.take j) e/\dG (s.ao.take j) e<=1000000000:=λe=>by
    have q2:=KS (a:=s.ao.take j) (n:=10000000) (λaa u=>(ab.lr aa (dA u)).2.2) e;have q3:(s.ao.take j).length<=41:=bE;have q4:=vG (s.ao.take j) e;omega
   refine(ME (i:=m) ae Q.heap hr ho U aY V aI (ab.ao l au) V ⟨V,V,aU.2.1⟩ hV.aR aR aO).mono ?_;rintro _ ay ⟨aK,rfl,an,aL,az⟩;have aD:Jx ob G.size R ay:=(t7.ext (T.trans D)).trans az;have a6:J L ay:=aD.uP x6 V V;refine⟨λx H=>az.same x (D.lt (l9 x H)) (by simp at H;omega) (by simp at H;omega),aK,rfl,λf=>t a6 λi=>nb an f (i.w r).Zf,λf=>a3 V _ ⟨aD,?_,λq aa K u=>?_⟩⟩
   .have aj:=aL (by simpa using f);refine⟨?_,?_,aj.ne⟩
    .rw[fB (g:=λe=>eu s.heap e+fA (s.ao.take j) e+de l.ak l.aR e)]
     .exact aj.aR
     .intro x H;rw[NE r];omega
    .rw[fB (g:=λe=>dG (s.ao.take j) e+eC l.ba e)]
     .exact aj.ba
     .intro x H;rw[KT r]
   .rcases aW q j with h|h
    .exact al q aa h u
    .have:q=j:=V;subst this;rw[r]at u;simp at u;subst u;exact⟨hV,hD,yb an f⟩
 rw[bY V]at N;have hW:∀(q:Nat)(l:aX),s.ao[q]? =some l->SJ a s q l:=λq l r=>al q l (oh (av r)) r;refine dU (n:=s.heap.length) V (λj M=>J W M/\∀(e:Nat)(o:bM),e<j->s.heap[e]? =some o->(0<o.aP->o.aP=eu s.heap e+fA s.ao e)/\(o.aP<0->dG s.ao e=1)) ⟨J.az _,λe o ha=>absurd ha (eX _)⟩ ?_;rintro u X I2 μ2 au ⟨x8,aj⟩ an;have X8:=P.trans x8;rw[ak];refine dit (λz=>?_) λz=>?_
 .have ae:u<s.heap.length:=V;let⟨o,aa⟩:=dB ae;obtain⟨l,_,g0,g1,g2⟩:=Q.heap.aF aa;refine⟨λM=>J X M/\(0<o.aP->o.aP=eu s.heap u+fA s.ao u)/\(o.aP<0->dG s.ao u=1),?_,?_⟩
  .refine⟨V,V,_,X8.af g0,_,X8.af g1,l,X8.af g2,?_⟩;intro Y w;have D:J X w:=((J.az X).aK _).ah (ad _) _ _;clear_value w;have S:=(x7.trans x8).trans D;have go:=tI (N.aR.ext (x8.trans D)) ae;have gh:=tI (N.ba.ext (x8.trans D)) ae;simp -zeta only[O.gF,O.jB,O.mV,bU,eR];have ba:(0<o.aP->o.aP=eu s.heap u+fA s.ao u)->((decide (o.aP<(0:Int)))=true->(0:Int)<=u/\(u:Int)<(s.heap.length:Int)/\∃am:Int,af w G.size u=some (vi am)/\
    ((am !=(1:Int))=true->∃A:Bool,vb false=.bool A/\(A=true<->cY a s)/\J m w)/\((am !=(1:Int))=false->J X w/\(0<o.aP->o.aP=eu s.heap u+fA s.ao u)/\(o.aP<0->dG s.ao u=1)))/\
    ((decide (o.aP<(0:Int)))=false->J X w/\(0<o.aP->o.aP=eu s.heap u+fA s.ao u)/\(o.aP<0->dG s.ao u=1)):=λB=>
    ⟨λf=>⟨V,V,_,gh,λh=>t S λi=>by have:=i.ba.k8 u o aa (by simpa using f);simp at h;exact h this,λh=>⟨D,B,λ_=>by simpa using h⟩⟩,λf=>⟨D,B,λh=>by simp at f;omega⟩⟩
   refine⟨λf=>⟨V,V,_,go,λh=>t S λi=>?_,λh=>ba λ_=>by simpa using h⟩,λf=>ba λh=>by simp at f;omega⟩;have:=i.QE u o aa (by simpa using f);simp at h;exact h this
  .rintro Y ⟨T,w,D⟩;refine an V _ ⟨x8.trans T,λe ac ha U=>?_⟩;rcases aW e u with h|h
   .exact aj e ac h U
   .have:e=u:=V;subst this;rw[aa]at U;simp at U;subst U;exact⟨w,D⟩
 .refine iO (Ma ⟨aZ,ah,ag,hv,a2,aV,aM,aN,a0,ax,λq l r=>(hW q l r).ok,⟨λl r w h=>?_,λS o B I=>(aj S o (oh (av B)) B).2 I,λS o B I=>?_⟩,λe o B c=>(aj e o (oh (av B)) B).1 c⟩) X8
  .let⟨q,K⟩:=vT r;by_cases D:w=0
   .exact Or.inl D
   .obtain⟨y,o,v,_⟩:=(hW q l K).Zf.ba w h D;exact Or.inr ⟨y,av v⟩
  .refine KU λl r w h ac=>?_;let⟨q,K⟩:=vT r;let⟨y,D,v,F⟩:=(hW q l K).Zf.ba w h V;rw[ac,lA,B]at v;simp at v;subst v;omega
def DP(k:fw m d p a)(r:gE m aT c b s)(q:DH s):dt cp 21 [.agg #[O.v d,O.v p],Na s aT c b] m (cY a s):=by
 apply yo;simp -zeta only[aC,aB];intro i e;have f:J m e:=((J.az m).aK _).aK _;have t:i.size=m.size+1:=by simp[i]
 have x:e.size=m.size+2:=by simp[e,t]
 clear_value e;have l:∀n∈[i.size,m.size],n<e.size:=bE;refine(DO (k.ext f)).aH (J.az _) l λb3 v j g _=>⟨b3,rfl,λh=>?_,λh=>bW (λo=>fb j h o.fy) (f.trans g)⟩;refine(DY (k.ext (f.trans g)) (j.1 h) (r.ext (f.trans g)) q).aH g l λb4 w o y u=>⟨b4,rfl,eU o (f.trans u)⟩
end
end
end Go.Proofs.YtkoifinbblcbiaaGreat
section
namespace Go.Vc
def fQ.kK{m:E}{b o:Nat}{l r:List Ce}(h:fQ m b o l)(k:fQ m b (o+l.length) r):fQ m b o (l++r):=λi d a=>by
 rcases aW i l.length with c|c
 .rw[ax c]at a;exact h i d a
 .rw[aI c]at a;have:=k _ d a;rwa[show o+l.length+(i -l.length)=o+i by omega]at this
def eT.TS{α:Type}{m:E}{c:Nat}{R:List Ce->α->Prop}{s:O}{l:List α}(h:eT m c R s l)(j:∀d x,R d x->d.length=c):∃a,gQ c R a l/\fQ m s.D s.off a.flatten:=by
 have:∀k,k<=l.length->∃a,gQ c R a (l.take k)/\fQ m s.D s.off a.flatten:=by
  intro k;induction k with
  |zero=>intro _;exact⟨[],by simpa using gQ.nil c R,λi e b=>by simp at b⟩
  |succ k o=>
   intro p;let⟨a,b,e⟩:=o V;let⟨x,g⟩:=cG l k;let⟨d,f,i⟩:=h.iB k x g;refine⟨a++[d],by rw[aU g];exact b.yD (j d x f) f,?_⟩;rw[qJ];refine e.kK ?_;have n:a.flatten.length=k*c:=by rw[cw b.size,b.len,gJ,jc V]
   rw[n];simpa using i
 let⟨a,b,e⟩:=this l.length (ad _);rw[fu]at b;exact⟨a,b,e⟩
end Go.Vc
namespace Go.Proofs.YtkoifinbblcbiaaGreat
open Go.Vc
variable{m:E}{s:O}{d:Nat->Nat}{N:Nat}{h:List bM}
def gW.Dt{a:E}{l:List Ce}{e n:Nat}(f:gW m a e n s l)(j:J m a)(i:∀b,m.size<=b->d b=0)(k:Nat):∃c,dp (λ_=>False) d m c a/\iG c a e n k s l/\∀b,c b=d b\/c b=k:=by
 rcases f.aF with h|⟨b,g,tail,h,h2,h3,h4,h5⟩
 .exact⟨d,dp.eH _ j i,iG.gA f λo=>absurd h o,λb=>Or.inl rfl⟩
 .refine⟨od d b k,dp.od j i h2 h3.lt k,iG.gA f λ_=>by rw[h];exact fI _ _ _,λg=>?_⟩;by_cases e:g=b
  .rw[e];exact Or.inr (fI _ _ _)
  .exact Or.inl (eV e)
def Il{z:O}(L:∀b,m.size<=b->d b=0)(H:∀b,b<m.size->d b≠3)(y:cW m z h)(hN:N<=m.size)(K:∀c∈h,c.aE.length<=3)(ac:h.length<=1000000000):
 aN cp 67 [O.v z] m λY l=>∃e s,Y=O.v s/\dK N e l s h/\dp (λk=>k=3) d m e l/\J m l:=by
 apply Cv
 intro A
 have Z:J m A:=(J.az m).aK _
 clear_value A
 have hl:=y.len
 have X:∀{e:Nat->Nat}{M:E},dp (λk=>k=3) d m e M->J m M:=λc=>⟨c.size,λb a=>c.eB b a (H b a)⟩
 refine eA (σ:=O) (n:=h.length) V (λk s M=>∃e,dK N e M s (h.take k)/\dp (λk=>k=3) d m e M) ⟨d,⟨[],⟨aL,aL,Or.inl rfl⟩,by simpa using gQ.nil _ _,Xk.nil⟩,dp.eH _ Z L⟩ ?_
 rintro k s T aa μ hk ⟨i,f,a⟩ U
 have v:=X a
 have en:Int.toNat (k:Int)=k:=V
 rw[en]
 refine dit (λG=>?_) λG=>?_
 .let⟨c,j⟩:=cG h k
  let⟨F,I,w,g1,g2⟩:=(cW.ext v y).aF j
  have ab:=K c (aq j)
  refine⟨V,V,c.aP,w,V,V,c.j9,g1,V,V,F,g2,(gS I V).mono ?_⟩
  rintro _ g ⟨q,rfl,o,r⟩
  refine⟨q,rfl,r.da g1,r.da w,?_⟩
  intro b
  have t:J g b:=(J.az g).aK _
  have S:cE b g.size lY [.i c.aP,.i c.j9,.s q]:=cE.push g _ _
  clear_value b
  have p:=r.trans t
  have C:dp (λ_=>False) i T i b:=dp.eH _ p a.new
  have u:dp (λk=>k=3) d m i b:=a.trans (dp.eH _ p a.new)
  have R:ap b q c.aE:=(ap.gA o V).ext t
  have Q:c.aE≠[]->i q.D=0:=λP=>a.new _ ((FB.gA o P).1)
  have hz:=a.size
  refine dK.push (f.eI C id id) u.new (x:=.mk g.size 0 1 1) rfl S.iB R (Rc.of f (λB=>p.same _ (f.D B).2) (λ_=>o.ext t) Q V) bE λW ad m5 D B=>?_
  exact U V _ _ ⟨W,by rw[aU j];exact D,u.trans B⟩
 .rw[bY V]at f
  exact⟨i,s,rfl,f,a,v⟩
structure Zq(N:Nat)(d:Nat->Nat)(m:E)(r:O)(h:List bM)(css0 css:List (List Ce))(k:Nat):Prop where
 p7:iG d m lY 3 3 r css.flatten
 len:css.length=h.length
 size:∀cs∈css,cs.length=3
 done:∀(j:Nat)(cs:List Ce)(c:bM),j<k->css[j]? =some cs->h[j]? =some c->xN N d m cs c
 jN:∀j,k<=j->css[j]? =css0[j]?
 sep:∀(i j:Nat)(ci cj:List Ce)(a b:O),i<k->j<k->css[i]? =some ci->css[j]? =some cj->ci[2]? =some (.s a)->cj[2]? =some (.s b)->i≠j->a.len≠0->b.len≠0->a.D≠b.D
def Ah{a:List (List Ce)}{n:Nat}(d:s.len=n)(g:a.length=n)(k:∀b∈a,b.length=3)(j:fQ m s.D s.off a.flatten)(t:n<=1000000000):
 aN cp 94 [O.v s] m λv c=>∃r,v=O.v r/\gW m c lY 3 r a.flatten/\J m c:=by
 apply mW
 refine⟨λh=>?_,λh=>?_⟩
 .cases s with
  |nil=>simp at d;have:a=[]:=List.length_eq_zero_iff.1 V;subst this;exact⟨.nil,rfl,gW.nil _ _ _ _,J.az _⟩
  |mk b o f e=>simp at h
  |zC b o e=>simp at h
 .intro e
  have b:J m e:=(J.az m).aK _
  have i:gW m e lY 3 (.mk m.size 0 0 0) []:=gW.new (J.az m) lY 3 [] 0 aL
  refine gW.append (zs:=[.i 0,.i 0,.s .nil]) (d:=a.flatten) i b (by rw[cw k,g,d];rfl) (b.iB j) bE λr c b f l o p q=>⟨r,rfl,by simpa using b,f⟩
def FI{hp:O}(hn:∀b,m.size<=b->d b=0)(h3:∀b,b<m.size->d b≠3)(hh:cW m hp h)(hN:N<=m.size)(ay:∀c∈h,c.aE.length<=3)(aA:h.length<=1000000000):
 aN cp 57 [O.v hp] m λaF m'=>∃W s,aF=O.v s/\dK N W m' s h/\dp (λk=>k=3) d m W m'/\J m m':=by
 apply zL
 simp -zeta only[aC,aB]
 have hl:=hh.len
 let⟨aa,u,ju⟩:=hh.TS (λz an⟨af,e,_⟩=>by rw[e];rfl)
 refine(Ah hl u.len u.size ju aA).mono ?_
 rintro _ m1 ⟨y,rfl,or,x1⟩
 obtain⟨g,C1,X,_⟩:=gW.Dt or x1 hn 3
 have aK:y.len=h.length:=by have:=X.len;rw[cw u.size,u.len]at this;omega
 refine⟨y,rfl,?_⟩
 have aE:∀{W:Nat->Nat}{M:E},dp (λk=>k=3) d m W M->J m M:=λc=>⟨c.size,λb l=>c.eB b l (h3 b l)⟩
 refine dU (n:=h.length) V (λk M=>∃i,Zq N g M y h aa i k/\dp (λk=>k=3) d m g M) ⟨aa,⟨X,u.len,u.size,λj _ _ p=>absurd p (eX _),λ_ _=>rfl,λB _ _ _ _ _ D=>absurd D (eX _)⟩,C1.mono λ_=>False.elim⟩ ?_
 rintro k F aG μ hk ⟨i,a,v⟩ aD
 have X2:=aE v
 have en:Int.toNat (k:Int)=k:=V
 rw[en]
 refine dit (λR=>?_) λR=>?_
 .have ak:k<h.length:=V
  let⟨c,T⟩:=dB ak
  let⟨af,hf,g0,g1,g2⟩:=(cW.ext X2 hh).aF T
  have aJ:=ay c (aq T)
  refine⟨V,V,c.aP,g0,c.j9,g1,af,g2,?_⟩
  intro m3 G
  have x4:J F G:=((J.az F).aK _).ah (ad _) _ _
  have s4:G.size=F.size+1:=by simp[G,m3,aw]
  clear_value G
  refine(eN (hf.ext x4) V).mono ?_
  rintro _ H ⟨q,rfl,oq,x5⟩
  have K:dp (λ_=>False) g F g H:=dp.eH _ (x4.trans x5) v.new
  have Y:=a.p7.eI K id
  have aH:=a.len
  have ai:k*3+2+1<=i.flatten.length:=by rw[cw a.size];have:(k+1)*3<=i.length*3:=dh _ V;omega
  let⟨z,U⟩:=cG i k
  let⟨ae,ag⟩:=cG aa k (by rw[u.len];exact ak)
  have ao:z=ae:=by have:=a.jN k (ad _);rw[U,ag]at this;simpa using this
  let⟨f0,ar,aI⟩:=u.dz k ae c ag T
  rw[ao,ar]at U
  have ax:y.cap≠0:=λe=>by have:=X.le;omega
  have rb:=Y.D ax
  have c6:∀am,dp (λk=>k=3) g H g (ah H y.D (y.off+(k*3+2)) am):=λam=>dp.ah K.new rb.2 _ _
  have au:g F.size=0:=v.new _ (ad _)
  refine⟨x5.dv bE,q,rfl,V,V,?_⟩
  rw[dj]
  refine⟨Y.wr ai,?_⟩
  intro m6
  have I:=c6 [.s q]
  have ab:c.aE≠[]->g q.D=0/\G.size<=q.D:=λx=>by
   have:=(FB.gA oq x).1;exact⟨v.new _ V,this⟩
  have iq:ap H q c.aE:=ap.gA oq V
  have L6:xN N g m6 [.i c.aP,.i c.j9,.s q] c:=xN.eI I bh _ _ ⟨q,rfl,iq,λx=>⟨(ab x).1,O8 ((ab x).2) v.size,(FB.gA oq x).2⟩⟩
  have ac:(i.set k [.i c.aP,.i c.j9,.s q])[k]? =some [.i c.aP,.i c.j9,.s q]:=dx (av U)
  refine⟨(I.mono λk hk=>by omega:To g H g m6).dv (by simp;exact⟨by have:=x5.size;omega,au⟩),aD V _ ⟨i.set k [.i c.aP,.i c.j9,.s q],⟨?_,by simpa using a.len,λZ w=>?_,λj Z Q p w hd=>?_,λj p=>?_,?_⟩,(v.trans (K.mono λ_=>False.elim)).trans I⟩⟩
  .have:=Y.set (o:=k*3+2) (new:=[.s q]) ai
   rw[BW i k _ 2 [.s q] a.size U aL]at this
   exact this
  .rcases cB w with f|f
   .exact a.size Z f
   .rw[f];rfl
  .rcases aW j k with f|f
   .rw[cv V]at w
    exact xN.eI I bh _ _ (xN.eI K id _ _ (a.done j Z Q f w hd))
   .have:j=k:=V
    subst this
    rw[ac]at w
    simp at w;subst w
    rw[T]at hd;simp at hd;subst hd;exact L6
  .rw[cv V];exact a.jN j V
  .have al:∀(j:Nat)(r:List Ce)(b:O),j<k->i[j]? =some r->r[2]? =some (.s b)->q.len≠0->b.len≠0->q.D≠b.D:=λj r b p t l f C=>by
    let⟨Q,hd⟩:=cG h j;obtain⟨b',e,ib,_⟩:=a.done j r Q p t hd;rw[e]at l;simp at l;subst l;have x:Q.aE≠[]:=λe=>by have:=ib.len;rw[e]at this;simp at this;exact C this
    have az:c.aE≠[]:=λe=>by have:=iq.len;rw[e]at this;simp at this;exact f this
    have:=iF ib x;have:=(ab az).2;omega
   intro B j P r L b D p A t S l aj f C
   by_cases ik:B=k
   .subst ik
    rw[ac]at A
    rw[cv aj]at t
    simp at A;subst A;simp at S;subst S
    exact al j r b V t l f C
   .rw[cv (λe=>ik e.symm)]at A
    by_cases jk:j=k
    .subst jk
     rw[ac]at t
     simp at t;subst t;simp at l;subst l
     exact kE (al B P L V A S C f)
    .rw[cv (λe=>jk e.symm)]at t
     exact a.sep B j P r L b V V A t S l aj f C
 .have e:∀{j:Nat}{z:List Ce},i[j]? =some z->j<k:=λp=>by have:=av p;have:=a.len;omega
  exact⟨g,y,rfl,⟨i,a.p7,⟨a.len,a.size,λj z an R f=>a.done j z an (e R) R f⟩,λB j P r L b D p=>a.sep B j P r L b (e D) (e p) D p⟩,v,X2⟩
end Go.Proofs.YtkoifinbblcbiaaGreat
end
namespace Go.Proofs.YtkoifinbblcbiaaGreat
open Go.Vc
section
variable{a g:Nat->Nat}{m h e:E}{p:Nat->Prop}{s:St}{d:List (List Ce)}
structure Bs(e:E)(a:Nat->Nat)(m:E):Prop where
 cy:J e m
 jR:∀b,b<e.size->a b=0
 new:∀b,m.size<=b->a b=0
structure pt(e:E)(a:Nat->Nat)(m:E)(aT hp fr:O)(s:St):Prop where
 bs:Bs e a m
 aT:iG a m aA 1 2 aT (s.aT.map Ce.i)
 heap:dK e.size a m hp s.heap
 ao:nG a m fr s.ao
structure zn(s:St):Prop where
 aT:s.aT.length<=900000000
 fl:∀c∈s.heap,c.aE.length<=3
 heap:s.heap.length<=900000000
 depth:s.ao.length<=1000
 ao:∀f∈s.ao,f.ak.length<=1000000/\f.aR.length<=1000000/\f.ba.length<=1000000
def Vj(e:E)(a:Nat->Nat)(m:E)(s:St)(v:Value)(h:E):Prop:=∃g aT c b,v=Na s aT c b/\pt e g h aT c b s/\dp (λ_=>False) a m g h
abbrev Wx:=dp (λk=>2<=k)
def Wx.none(c:Wx a m g h)(e:∀b,b<m.size->a b<=1):dp (λ_=>False) a m g h:=⟨c.size,c.gU,c.new,λb d _=>c.eB b d (oh (e b d))⟩
def dp.uP(b:dp (λ_=>False) a m g h):J m h:=⟨b.size,λc d=>b.eB c d id⟩
def Bs.eI(B:Bs e a m)(b:dp (λ_=>False) a m g h):Bs e g h:=⟨B.cy.trans b.uP,λc d=>by rw[b.gU c (B.cy.lt d)];exact B.jR c d,b.new⟩
def dp.Z6(e:dp p a m g h){l:List Nat}(d:∀b∈l,b<m.size/\¬p (a b)):eG l m h:=λb c=>e.eB b (d b c).1 (d b c).2
structure Ui(e:E)(a:Nat->Nat)(m:E)(g:Nat->Nat)(M:E)(q r:O)(s:St):Prop where
 eI:Wx a m g M
 aT:iG g M aA 1 2 q (s.aT.map Ce.i)
 heap:dK e.size g M r s.heap
def Ui.kD{i j:Nat->Nat}{f g:E}{q r:O}(h:Ui e a m i f q r s)(d:dp p i f j g)(c:∀k,p k->4<=k):Ui e a m j g q r s:=
 ⟨h.eI.trans (d.mono λk b=>oh (c k b)),h.aT.eI d λb=>oh (c _ b),h.heap.eI d (λb=>oh (c _ b)) λb=>oh (c _ b)⟩
def yC{s:O}{n:Nat}(c:s.len=n)(g:d.length=n)(k:∀a∈d,a.length=6)(j:fQ m s.D s.off d.flatten)(t:n<=1000000000):
 aN cp 58 [O.v s] m λv h=>∃r,v=O.v r/\gW m h dP 6 r d.flatten/\J m h:=by
 apply mG
 refine⟨λb=>?_,λb=>?_⟩
 .cases s with
  |nil=>simp at c;have:d=[]:=List.length_eq_zero_iff.1 V;subst this;exact⟨.nil,rfl,gW.nil _ _ _ _,J.az _⟩
  |mk a o f e=>simp at b
  |zC a o e=>simp at b
 .intro e
  have a:J m e:=(J.az m).aK _
  have i:gW m e dP 6 (.mk m.size 0 0 0) []:=gW.new (J.az m) dP 6 [] 0 aL
  refine gW.append (zs:=[.i 0,.i 0,.i 0,.s .nil,.s .nil,.s .nil]) (d:=d.flatten) i a (by rw[cw k,g,c];rfl) (a.iB j) bE λr h a f l o p q=>⟨r,rfl,by simpa using a,f⟩
structure Zo(a:Nat->Nat)(m:E)(r:O)(fs:List aX)(css0 d:List (List Ce))(k:Nat):Prop where
 p7:iG a m dP 6 4 r d.flatten
 len:d.length=fs.length
 size:∀cs∈d,cs.length=6
 done:∀(j:Nat)(cs:List Ce)(f:aX),j<k->d[j]? =some cs->fs[j]? =some f->SI a m j cs f
 jN:∀j,k<=j->d[j]? =css0[j]?
def Q2{k o:Nat}{a:List Ce}{x:Ce}(e:∀a∈d,a.length=6)(b:d[k]? =some a)(g:o<6):jb d.flatten (k*6+o) [x]=(d.set k (a.set o x)).flatten/\(∀c∈d.set k (a.set o x),c.length=6)/\(d.set k (a.set o x))[k]? =some (a.set o x):=by
 refine⟨BW d k a o [x] e b bE,λc f=>?_,dx (av b)⟩;rcases cB f with h|h
 .exact e c h
 .rw[h,eg];exact e a (aq b)
def DS{aT hp w:O}(al:Bs e a m)(az:∀c,a c<=1)(T:gE m aT hp w s)(ae:zn s):aN cp 32 [Na s aT hp w] m (Vj e a m s):=by
 apply yr;simp -zeta only[aC,aB];intro h A;have s1:h.size=m.size+1:=by simp[h]
 have s2:A.size=m.size+2:=by simp[A,s1]
 have x2:J m A:=((J.az m).aK _).aK _;obtain⟨G,ao⟩:∃G,G=od (od a m.size 8) h.size 8:=⟨_,rfl⟩;have C2:dp (λ_=>False) a m G A:=by
  rw[ao];exact(dp.od (m':=h) (k:=8) ((J.az m).aK _) al.new (ad _) V).trans (dp.od (m':=A) (k:=8) ((J.az h).aK _) (λc hb=>by rw[eV V];exact al.new c V) (ad _) V)
 have r0:G m.size=8/\G h.size=8:=by rw[ao];exact⟨by rw[eV V,fI],fI _ _ _⟩
 have a2:∀c,G c=8\/G c<=1:=λc=>by
  rw[ao];unfold od;split
  .exact Or.inl rfl
  .split
   .exact Or.inl rfl
   .exact Or.inr (az c)
 have aZ:cE A h.size iv [.i 0,.i 0,.i 0,.i 0,.s .nil,.s .nil,.s .nil]:=cE.push h _ _;have bq:cE A m.size iv [.i s.bV,.i s.value,.i s.bu,.i s.dV,.s aT,.s hp,.s w]:=(cE.push m _ _).ext (J.push h _);clear_value A;clear ao;have hN:=al.cy.size;have bo:=ae.aT;have bn:=ae.heap;have bj:=ae.depth;refine(eN (T.aT.ext x2) V).mono ?_;rintro _ m3 ⟨ai,rfl,oq,H⟩;let⟨ba,C3,A3,a3⟩:=gW.Dt oq H C2.new 2;have z3:=H.size;have kp:∀{M M':E},J M M'->m.size<M.size->∀i,af M' m.size i=af M m.size i:=λhx ac i=>aJ (hx.same _ ac) i;have X3:=x2.trans H;refine⟨H.dv bE,ai,rfl,kp H V _,kp H V _,(FI (N:=e.size) C3.new (λc _=>O8 (a3 c) (a2 c)) (T.ext X3).heap V ae.fl V).mono ?_⟩;rintro _ m4 ⟨bb,aj,rfl,H4,Y,x4⟩;have z4:=x4.size;have X4:=X3.trans x4;have K4:Ui e a m bb m4 ai aj s:=⟨((C2.trans C3).mono λ_=>False.elim:Wx a m ba m3).trans (Y.mono λb R=>V),A3.eI Y bh,H4⟩;have aY:=T.ao.len;let⟨an,q,ju⟩:=(T.ext X4).ao.TS (λQ ak⟨_,_,_,t,_⟩=>by rw[t];rfl);refine⟨x4.dv bE,aj,rfl,kp x4 V _,(yC aY q.len q.size ju V).mono ?_⟩;rintro _ m5 ⟨fc,rfl,of,x5⟩;let⟨u,K,A5,br⟩:=gW.Dt of x5 Y.new 4;have z5:=x5.size;have K5:=K4.kD K λ_=>False.elim;refine⟨x5.dv bE,fc,rfl,?_⟩;intro m6 m7 F;have r5:u m.size=8/\u h.size=8:=⟨by rw[K.gU _ V,Y.gU _ V,C3.gU _ V];exact r0.1,by rw[K.gU _ V,Y.gU _ V,C3.gU _ V];exact r0.2⟩;have C8:dp (λb=>b=8) u m5 u F:=((dp.ah K.new (show(λb=>b=8) (u m.size)from r5.1) _ _).trans (dp.ah (by rw[aw];exact K.new) (show(λb=>b=8) (u m.size)from r5.1) _ _)).trans (dp.ah (by rw[aw,aw];exact K.new) (show(λb=>b=8) (u m.size)from r5.1) _ _);have K8:Ui e a m u F ai aj s:=K5.kD C8 λb R=>V;have A8:iG u F dP 6 4 fc an.flatten:=A5.eI C8 bh;have a0:cE F h.size iv [.i 0,.i 0,.i 0,.i 0,.s .nil,.s .nil,.s .nil]:=((aZ.ext (H.trans (x4.trans x5))).congr (by
  show(ah (ah (ah m5 m.size 4 _) m.size 5 _) m.size 6 _)[h.size]? =_;rw[bd _ _ _ _ V,bd _ _ _ _ V,bd _ _ _ _ V]))
 have s8:F.size=m5.size:=by simp[F,m7,m6,aw]
 clear_value F;have bm:fc.len=s.ao.length:=by have:=A8.len;rw[cw q.size,q.len]at this;omega
 refine dU (n:=s.ao.length) V (λb M=>∃g d,Ui e a m g M ai aj s/\Zo g M fc s.ao an d b/\m5.size<=M.size/\g m.size=8/\g h.size=8/\cE M h.size iv [.i 0,.i 0,.i 0,.i 0,.s .nil,.s .nil,.s .nil])
  ⟨u,an,K8,⟨A8,q.len,q.size,λy _ _ hj=>absurd hj (eX _),λ_ _=>rfl⟩,V,r5.1,r5.2,a0⟩ ?_
 rintro b l bc μ R ⟨B,d,Z,f,z9,r9,aI,a1⟩ a6
 have en:Int.toNat (b:Int)=b:=V;rw[en];have aQ:∀{g:Nat->Nat}{M:E},Wx a m g M->J m M:=λaO=>(aO.none λc _=>az c).uP;refine dit (λh1=>?_) λh1=>?_
 .have aH:b<s.ao.length:=V;let⟨j,hf⟩:=dB aH;have bk:=ae.ao j (aq hf);let⟨aP,ab⟩:=cG an b (by rw[q.len];exact aH);let⟨ra,oa,ha,e0,ir,io,ih⟩:=q.dz b aP j ab hf;have aG:d[b]? =some [.i j.fE,.i j.pc,.i j.dst,.s ra,.s oa,.s ha]:=by rw[f.jN b (ad _),ab,e0]
  have S:∀(i:Nat)(ak:Ce),[Ce.i j.fE,.i j.pc,.i j.dst,.s ra,.s oa,.s ha][i]? =some ak->af l fc.D (fc.off+b*6+i)=some ak.v:=λi ak hx=>by
   have:=f.p7.iB (b*6+i) ak (fW f.size aG hx);rwa[<-dj]at this
  obtain⟨r',o',h',jr,jo,jh,_,_,_,y3,y4,y5⟩:=T.ao.aF hf;have X9:=aQ Z.eI;have er:r'=ra/\o'=oa/\h'=ha:=by
   obtain⟨bf,⟨be,b1,c1,e1,_⟩,bp⟩:=T.ao.iB b j hf;have g3:af m4 w.D (w.off+b*6+3)=some (O.v ra):=by
    have:=ju (b*6+3) (.s ra) (fW q.size ab (by rw[e0];rfl));rwa[<-dj]at this
   have g4:af m4 w.D (w.off+b*6+4)=some (O.v oa):=by
    have:=ju (b*6+4) (.s oa) (fW q.size ab (by rw[e0];rfl));rwa[<-dj]at this
   have g5:af m4 w.D (w.off+b*6+5)=some (O.v ha):=by
    have:=ju (b*6+5) (.s ha) (fW q.size ab (by rw[e0];rfl));rwa[<-dj]at this
   rw[X4.af y3]at g3;rw[X4.af y4]at g4;rw[X4.af y5]at g5;exact⟨O.BA.1 (jK g3),O.BA.1 (jK g4),O.BA.1 (jK g5)⟩
  obtain⟨rfl,rfl,rfl⟩:=er;refine⟨V,V,_,S 0 _ rfl,_,S 1 _ rfl,_,S 2 _ rfl,_,S 3 _ rfl,_,S 4 _ rfl,_,S 5 _ rfl,?_⟩;intro aA U;have ar:J l U:=((J.az l).aK _).ah (ad _) _ _;have bw:U.size=l.size+1:=by simp[U,aA,aw]
  clear_value U;have aF:dp (λ_=>False) B l (od B l.size 8) U:=dp.od ar Z.eI.new (ad _) V 8;refine(eN (jr.ext (X9.trans ar)) V).mono ?_;rintro _ bs ⟨qr,rfl,a7,v⟩;obtain⟨bu,ay,aK,_⟩:=gW.Dt a7 v aF.new (10+3*b);have bz:=v.size;have p:∀{M M':E}{c:Nat},J M M'->c<M.size->∀i,af M' c i=af M c i:=λhx ac i=>aJ (hx.same _ ac) i;have bl:∀{M:E},U.size<=M.size->∀c∈[l.size,m.size,h.size],c<M.size:=λbg c hb=>by simp at hb;omega
  refine⟨v.dv (bl (ad _)),qr,rfl,p v V _,p v V _,p v V _,p v V _,p v V _,(eN (jo.ext (X9.trans (ar.trans v))) V).mono ?_⟩;rintro _ bt ⟨qo,rfl,a8,C⟩;obtain⟨bv,am,aL,_⟩:=gW.Dt a8 C ay.new (11+3*b);have bA:=C.size;refine⟨C.dv (bl V),qo,rfl,p C V _,p C V _,p C V _,p C V _,(eN (jh.ext (X9.trans (ar.trans (v.trans C)))) V).mono ?_⟩;rintro _ aD ⟨qh,rfl,a9,X⟩;obtain⟨r,D,aM,_⟩:=gW.Dt a9 X am.new (12+3*b);have bB:=X.size;have L:dp (λ_=>False) B l r aD:=((aF.trans ay).trans am).trans D;have P:r l.size=8/\r m.size=8/\r h.size=8:=⟨by rw[D.gU _ V,am.gU _ V,ay.gU _ V];exact fI _ _ _,by rw[L.gU _ V];exact r9,by rw[L.gU _ V];exact aI⟩;have A9:=f.p7.eI L id;have aX:fc.cap≠0:=λt=>by have:=f.p7.le;omega
  have W:=A9.D aX;have a_:fc.D≠m.size/\fc.D≠h.size/\fc.D≠l.size:=⟨λt=>by have:=W.2;rw[t,P.2.1]at this;omega,λt=>by have:=W.2;rw[t,P.2.2]at this;omega,λt=>by have:=W.2;rw[t,P.1]at this;omega⟩;have bi:=f.len;have uv:∀z,z<6->b*6+z+1<=d.flatten.length:=λz ho=>by rw[cw f.size];have:(b+1)*6<=d.length*6:=dh _ V;omega
  have sm:∀{M:E}(z:Nat)(ag:List Ce),eG [l.size,m.size,h.size] M (ah M fc.D z ag):=λz ag c hb=>bd _ _ _ _ (by simp at hb;omega);have gg:∀{M:E}(z:Nat)(ag:List Ce)(i:Nat),af (ah M fc.D z ag) m.size i=af M m.size i:=λz ag i=>aJ (bd _ _ _ _ (λt=>a_.1 t.symm)) i;refine⟨X.dv (bl V),qh,rfl,p X V _,p X V _,p X V _,V,V,?_⟩;simp -zeta only[dj];refine⟨A9.wr (uv 3 bh),?_⟩;let⟨e1,f1,aS⟩:=Q2 (x:=.s qr) (o:=3) f.size aG bh;have au:=A9.set (o:=b*6+3) (new:=[.s qr]) (uv 3 bh);rw[e1]at au;intro a4;let⟨e2,f2,aU⟩:=Q2 (x:=.s qo) (o:=4) f1 aS bh;have ax:=au.set (o:=b*6+4) (new:=[.s qo]) (by have:=uv 4 bh;rw[cw f.size]at this;rw[cw f1,eg];exact this);rw[e2]at ax;refine⟨sm _ _,gg _ _ _,gg _ _ _,V,V,au.wr (by have:=uv 4 bh;rw[cw f.size]at this;rw[cw f1,eg];exact this),?_⟩;intro a5;let⟨e3,f3,aV⟩:=Q2 (x:=.s qh) (o:=5) f2 aU bh;have aE:=ax.set (o:=b*6+5) (new:=[.s qh]) (by have:=uv 5 bh;rw[cw f.size]at this;rw[cw f2,eg,eg];exact this);rw[e3]at aE;refine⟨sm _ _,gg _ _ _,V,V,ax.wr (by have:=uv 5 bh;rw[cw f.size]at this;rw[cw f2,eg,eg];exact this),?_⟩;intro ap;have I:dp (λb=>b=4) r aD r ap:=((dp.ah D.new (show(λb=>b=4) (r fc.D)from W.2) _ _).trans (dp.ah (by rw[aw];exact D.new) (show(λb=>b=4) (r fc.D)from W.2) _ _)).trans (dp.ah (by rw[aw,aw];exact D.new) (show(λb=>b=4) (r fc.D)from W.2) _ _);have bx:ap.size=aD.size:=by simp[ap,a5,a4,aw]
  have sU:SI r ap b [.i j.fE,.i j.pc,.i j.dst,.s qr,.s qo,.s qh] j:=⟨qr,qo,qh,rfl,(((aK.eI am id).eI D id).eI I V),(aL.eI D id).eI I V,aM.eI I V⟩;refine⟨sm _ _,a6 V _ ⟨r,_,(Z.kD L λ_=>False.elim).kD I λb R=>V,⟨aE,by simp;exact f.len,f3,λy Q aR hj aa hg=>?_,λy hj=>?_⟩,V,P.2.1,P.2.2,(a1.ext L.uP).congr (I.eB _ V (by rw[P.2.2];decide))⟩⟩
  .rcases aW y b with h5|h5
   .rw[cv V,cv V,cv V]at aa;exact((f.done y Q aR h5 aa hg).eI L λ_ _ _=>id).eI I λb R _=>V
   .have:y=b:=V;subst this;rw[aV]at aa;simp at aa;subst aa;rw[hf]at hg;simp at hg;subst hg;exact sU
  .rw[cv V,cv V,cv V];exact f.jN y V
 .intro aA;have r:dp (λb=>b=8) B l B aA:=dp.ah Z.eI.new (show(λb=>b=8) (B h.size)from aI) _ _;have p:=Z.kD r λb R=>V;have ac:∀{y:Nat}{Q:List Ce},d[y]? =some Q->y<b:=λhj=>by have:=av hj;have:=f.len;omega
  have v:nG B l fc s.ao:=⟨d,f.p7,f.len,f.size,λi Q j h1 t=>f.done i Q j (ac h1) h1 t⟩;have D:=p.eI.none λc _=>az c;exact⟨B,ai,aj,fc,rfl,⟨al.eI D,p.aT,p.heap,v.eI r λb R=>V⟩,D⟩
end
section
variable{d:Nat->Nat}{e:E}
abbrev z7:List Ce:=[.i 0,.i 0,.i 0,.i 0,.s .nil,.s .nil,.s .nil]
structure Nj(m0:E)(ro:Nat->Nat)(m m2:E)(s:St)(ro':Nat->Nat)(M:E)(q r:Option O)(ob:Option Nat):Prop where
 eI:Wx ro m ro' M
 ext:J m2 M
 Zc:r=none->∀b,ro' b≠3
 box:∀b,m.size<=b->b<m2.size->ro' b=8
 aT:∀x,q=some x->iG ro' M aA 1 2 x (s.aT.map Ce.i)
 heap:∀x,r=some x->dK m0.size ro' M x s.heap
 ob:∀x,ob=some x->m2.size<=x/\ro' x=8/\cE M x iv z7
section
variable{h:E}{i:Nat->Nat}{m g:E}{s:St}{f:Nat->Nat}{M:E}{q r:Option O}{j:Option Nat}
def Nj.gY(k:Nj h i m g s f M q r j)(n:dp (λa=>a=3) f M d e)(p:J M e)(C:∀b,m.size<=b->b<g.size->d b=8){u o:Option O}{t:Option Nat}(z:r=none\/dp (λ_=>False) f M d e)(B:o=none->∀b,d b≠3)
 (w:∀x,u=some x->q=some x\/iG d e aA 1 2 x (s.aT.map Ce.i))(y:∀x,o=some x->r=some x\/dK h.size d e x s.heap)(A:∀x,t=some x->j=some x\/(g.size<=x/\d x=8/\cE e x iv z7)):Nj h i m g s d e u o t:=
 ⟨k.eI.trans (n.mono λa c=>V),k.ext.trans p,B,C,λx c=>(w x c).elim (λa=>(k.aT x a).eI n bh) id,
  λx c=>(y x c).elim (λa=>z.elim (λl=>by rw[l]at a;cases a) λl=>(k.heap x a).eI l id id) id,
  λx c=>(A x c).elim (λa=>by
   let⟨v,b,l⟩:=k.ob x a;exact⟨v,by rw[n.gU _ l.lt];exact b,l.ext p⟩) id⟩
def Nj.RB(a:Nj h i m g s f M q r j){p:Nat->Prop}(l:dp p f M d e):∀b,m.size<=b->b<g.size->d b=8:=λb k c=>by rw[l.gU b (a.ext.lt c)];exact a.box b k c
def Nj.c(b:Nj h i m g s f M none r j){x:O}(n:gW M e aA 1 x (s.aT.map Ce.i))(k:J M e):∃d,Nj h i m g s d e (some x) r j:=by
 let⟨d,C,A,l⟩:=gW.Dt n k b.eI.new 2;exact⟨d,b.gY (C.mono λ_=>False.elim) k (b.RB C) (Or.inr C) (λa c=>O8 (l c) (b.Zc a c)) (λy a=>Or.inr (by simp at a;subst a;exact A)) (λy a=>Or.inl a) λy a=>Or.inl a⟩
def Nj.a(b:Nj h i m g s f M q r j)(c:J M e):Nj h i m g s f e q r j:=
 have C:dp (λ_=>False) f M f e:=dp.eH _ c b.eI.new
 b.gY (C.mono λ_=>False.elim) c (b.RB C) (Or.inr C) b.Zc (λy a=>Or.inl a) (λy a=>Or.inl a) λy a=>Or.inl a
def Nj.b(b:Nj h i m g s f M q r none){e:E}(a:e=M.push (.cells (bt z7) iv)):∃d,Nj h i m g s d e q r (some M.size):=by
 have l:J M e:=by rw[a];exact J.push _ _
 have C:dp (λ_=>False) f M (od f M.size 8) e:=dp.od l b.eI.new (ad _) (by rw[a];simp) 8;refine⟨_,b.gY (C.mono λ_=>False.elim) l (b.RB C) (Or.inr C) (λn c=>?_) (λy a=>Or.inl a) (λy a=>Or.inl a) λy j=>Or.inr ?_⟩
 .by_cases k:c=M.size
  .rw[k,fI];decide
  .rw[eV k];exact b.Zc n c
 .simp at j;subst j;exact⟨b.ext.size,fI _ _ _,by rw[a];exact cE.push _ _ _⟩
end
def pR{w:E}{u:Nat->Nat}{a:E}{aT hp fr:O}{s:St}(aj:Bs w u a)(au:∀c,u c<=1)(hs:gE a aT hp fr s)(ag:zn s):aN cp 35 [Na s aT hp fr] a (Vj w u a s):=by
 apply Ax;simp -zeta only[aC,aB];intro v i;have s1:v.size=a.size+1:=by simp[v]
 have s2:i.size=a.size+2:=by simp[i,s1]
 have x2:J a i:=((J.az a).aK _).aK _;obtain⟨d,an⟩:∃d,d=od (od u a.size 8) v.size 8:=⟨_,rfl⟩;have C2:dp (λ_=>False) u a d i:=by
  rw[an];exact(dp.od (m':=v) (k:=8) ((J.az a).aK _) aj.new (ad _) V).trans (dp.od (m':=i) (k:=8) ((J.az v).aK _) (λc K=>by rw[eV V];exact aj.new c V) (ad _) V)
 have r0:d a.size=8/\d v.size=8:=by rw[an];exact⟨by rw[eV V,fI],fI _ _ _⟩
 have I:Nj w u a i s d i none none none:=by
  refine⟨C2.mono λ_=>False.elim,J.az _,λ_ c=>?_,λc h1 h2=>?_,aL,aL,aL⟩
  .rw[an];unfold od;split
   .decide
   .split
    .decide
    .have:=au c;omega
  .rcases aW c v.size with h|h
   .have:c=a.size:=V;subst this;exact r0.1
   .have:c=v.size:=V;subst this;exact r0.2
 clear_value i;clear an;have hN:=aj.cy.size;have a_:=ag.aT;have a9:=ag.heap;have a6:=ag.depth;have cC:∀{b:Nat->Nat}{M:E}{j:Option O}{l:Option Nat}{Z:Value->E->Prop},Nj w u a i s b M none j l->(∀A g F,Nj w u a i s F g (some A) j l->J M g->M.size<=g.size->Z (O.v A) g)->aN cp 66 [O.v aT] M Z:=λh hK=>
  (gS (hs.aT.ext (x2.trans h.ext)) V).mono λ_ g⟨A,p,z,y⟩=>by
   let⟨F,h'⟩:=h.c z y;rw[p];exact hK A g F h' y y.size
 have cH:∀{b:Nat->Nat}{M:E}{q:Option O}{l:Option Nat}{Z:Value->E->Prop},Nj w u a i s b M q none l->(∀A g F,Nj w u a i s F g q (some A) l->J M g->M.size<=g.size->Z (O.v A) g)->aN cp 67 [O.v hp] M Z:=λ{b M q l Z} h hK=>
  (Il (N:=w.size) h.eI.new (λc _=>h.Zc rfl c) (hs.ext (x2.trans h.ext)).heap (oh h.ext.size) ag.fl V).mono λ_ g⟨F,A,p,aP,ak,y⟩=>by
   rw[p];exact hK A g F (h.gY ak y (h.RB ak) (Or.inl rfl) (λp=>by cases p) (λe p=>Or.inl p) (λe p=>Or.inr (by simp at p;subst p;exact aP)) λe p=>Or.inl p) y y.size
 have kp:∀{M g:E},J M g->i.size<=M.size->∀L,af g a.size L=af M a.size L:=λy aA L=>aJ (y.same _ V) L;refine⟨λz M=>z.2=0/\∃b q j fb,Ui w u a b M q j s/\i.size<=z.1/\i.size<=M.size/\b z.1=8/\b a.size=8/\b v.size=8/\cE M z.1 iv [.i s.bV,.i s.value,.i s.bu,.i s.dV,.s q,.s j,.s (.mk fb 0 0 0)],?_,?_⟩
 .have iI:∀{b:Nat->Nat}{M:E}{q j:O}{l fb:Nat},Nj w u a i s b M (some q) (some j) (some l)->(λ(z:Nat×Nat) M=>z.2=0/\∃b q j fb,Ui w u a b M q j s/\i.size<=z.1/\i.size<=M.size/\b z.1=8/\b a.size=8/\b v.size=8/\cE M z.1 iv [.i s.bV,.i s.value,.i s.bu,.i s.dV,.s q,.s j,.s (.mk fb 0 0 0)]) (l,0) (ah M l 0 [.i s.bV,.i s.value,.i s.bu,.i s.dV,.s q,.s j,.s (.mk fb 0 0 0)]):=λ{b M q j l fb} h=>by
   let⟨G,c,ar⟩:=h.ob l rfl;have ak:dp (λe=>e=8) b M b (ah M l 0 [.i s.bV,.i s.value,.i s.bu,.i s.dV,.s q,.s j,.s (.mk fb 0 0 0)]):=dp.ah h.eI.new c _ _;exact⟨rfl,b,q,j,fb,(⟨h.eI,h.aT q rfl,h.heap j rfl⟩:Ui w u a b M q j s).kD ak λe hk=>V,G,by rw[aw];exact h.ext.size,c,h.box _ V V,h.box _ V V,cE.ah (m:=M) (o:=0) ar⟩
  have t:i.size<=i.size:=ad _;repeat' first
   |exact iI I
   |(refine cC I ?_;intro A g F I B C;have D:=t;have t:=bH t C)
   |(refine cH I ?_;intro A g F I B C;have D:=t;have t:=bH t C)
   |(intro C;have B:J _ C:=(J.az _).aK _;have H:Array.size C=_+1:=Array.size_push _;have D:=t;have t:=bH t B.size;first|(obtain⟨F,I⟩:=I.b (e:=C) rfl;clear_value C)|(have I:=I.a B;clear_value C))
   |(refine And.intro (kp B D _) ?_)
   |(refine And.intro (J.dv B λc K=>by simp at K;omega) ?_)
   |(refine⟨_,rfl,?_⟩)
   |(refine And.intro ?_ ?_)
 .rintro⟨l,oo⟩ m3 ⟨rfl,a4,q,j,fb,K3,aS,z3,r3,a1,a2,aE⟩;simp only[]at aS r3 aE;have aQ:∀{b:Nat->Nat}{M:E},Wx u a b M->J a M:=λar=>(ar.none λc _=>au c).uP;have a8:=hs.ao.len;simp -zeta only[bU];refine dU (n:=s.ao.length) V (λe M=>∃b fc,Ui w u a b M q j s/\nG b M fc (s.ao.take e)/\i.size<=M.size/\b l=8/\b a.size=8/\b v.size=8/\cE M l iv [.i s.bV,.i s.value,.i s.bu,.i s.dV,.s q,.s j,.s fc])
   ⟨a4,_,K3,⟨[],⟨aL,aL,Or.inl rfl⟩,aL,aL,aL⟩,z3,r3,a1,a2,aE⟩ ?_
  rintro e D a5 μ hk ⟨W,fc,K9,F9,z9,r9,a3,aG,C⟩ aX
  have en:Int.toNat (e:Int)=e:=V;rw[en];have H:=aQ K9.eI;have ba:=C.lt;refine dit (λh1=>?_) λh1=>?_
  .have aR:e<s.ao.length:=V;let⟨ae,hf⟩:=dB aR;have a7:=ag.ao ae (aq hf);let⟨ra,oa,ha,ir,io,ih,g0,g1,g2,g3,g4,g5⟩:=hs.ao.aF hf;refine⟨V,V,_,H.af g0,_,H.af g1,_,H.af g2,ra,H.af g3,oa,H.af g4,ha,H.af g5,?_⟩;intro av aa;have ai:J D aa:=((J.az D).aK _).ah (ad _) _ _;have bg:aa.size=D.size+1:=by simp[aa,av,aw]
   clear_value aa;have ay:dp (λ_=>False) W D (od W D.size 8) aa:=dp.od ai K9.eI.new (ad _) V 8;have t:∀{M g:E}{c:Nat},J M g->c<M.size->∀L,af g c L=af M c L:=λy aA L=>aJ (y.same _ aA) L;have bl:∀{M:E},aa.size<=M.size->∀c∈[D.size,v.size,a.size],c<M.size:=λh c K=>by simp at K;omega
   refine⟨fc,(C.ext ai).cg 6,(gS (ir.ext (H.trans ai)) V).mono ?_⟩;rintro _ bb ⟨qr,rfl,aY,B⟩;obtain⟨be,ap,aI,_⟩:=gW.Dt aY B ay.new (10+3*e);have bj:=B.size;refine⟨B.dv (bl (ad _)),qr,rfl,t B V _,t B V _,t B V _,t B V _,t B V _,t B V _,(gS (io.ext (H.trans (ai.trans B))) V).mono ?_⟩;rintro _ bc ⟨qo,rfl,aZ,P⟩;obtain⟨bf,al,aK,_⟩:=gW.Dt aZ P ap.new (11+3*e);have bk:=P.size;refine⟨P.dv (bl V),qo,rfl,t P V _,t P V _,t P V _,t P V _,t P V _,(gS (ih.ext (H.trans (ai.trans (B.trans P)))) V).mono ?_⟩;rintro _ S ⟨qh,rfl,a0,X⟩;obtain⟨U,ab,aM,_⟩:=gW.Dt a0 X al.new (12+3*e);have bm:=X.size;refine⟨X.dv (bl V),qh,rfl,t X V _,t X V _,t X V _,t X V _,?_⟩;intro T;have aH:J S T:=(J.az S).aK _;have bh:T.size=S.size+1:=by simp[T]
   have aV:cE T S.size dP [.i ae.fE,.i ae.pc,.i ae.dst,.s qr,.s qo,.s qh]:=cE.push S _ _;clear_value T;have ac:dp (λ_=>False) U S U T:=dp.eH _ aH ab.new;have Y:dp (λ_=>False) W D U T:=(((ay.trans ap).trans al).trans ab).trans ac;have Q:U D.size=8/\U a.size=8/\U v.size=8/\U l=8:=⟨by rw[ab.gU _ V,al.gU _ V,ap.gU _ V];exact fI _ _ _,by rw[Y.gU _ V];exact a3,by rw[Y.gU _ V];exact aG,by rw[Y.gU _ V];exact r9⟩;have tk:(s.ao.take e).length=e:=bE;refine⟨t aH V _,nG.push (a:=ae) (F9.eI Y λ_ _=>id) ac.new (x:=.mk S.size 0 1 1) rfl aV.iB (by rw[tk];exact(((aI.eI al id).eI ab id).eI ac id)) (by rw[tk];exact(aK.eI ab id).eI ac id) (by rw[tk];exact aM.eI ac id) V λR az ao aO G=>?_⟩;have bn:=G.size;have am:R D.size=8/\R a.size=8/\R v.size=8/\R l=8:=⟨by rw[G.gU _ V];exact Q.1,by rw[G.gU _ V];exact Q.2.1,by rw[G.gU _ V];exact Q.2.2.1,by rw[G.gU _ V];exact Q.2.2.2⟩;have aD:cE ao l iv [.i s.bV,.i s.value,.i s.bu,.i s.dV,.s q,.s j,.s fc]:=(C.ext Y.uP).congr (G.eB _ V (by rw[Q.2.2.2];decide));refine⟨G.Z6 λc K=>by simp at K;rcases K with p|p|p<;>rw[p]<;>refine⟨V,?_⟩<;>simp[Q.1,Q.2.1,Q.2.2.1],aD.fK aL,?_⟩;intro aF;have ax:dp (λe=>e=8) R ao R aF:=dp.ah G.new (show(λe=>e=8) (R l)from am.2.2.2) _ _;have bi:aF.size=ao.size:=aw _ _ _ _;refine⟨λc K=>bd _ _ _ _ (by simp at K;omega),aX V _ ⟨R,az,((K9.kD Y λ_=>False.elim).kD G λe hk=>V).kD ax λe hk=>V,?_,V,am.2.2.2,am.2.1,am.2.2.1,cE.ah (m:=ao) (o:=6) (r:=[.s az]) aD⟩⟩;rw[aU hf];exact aO.eI ax λe hk=>V
  .rw[bY V]at F9;refine⟨_,C.cg 0,_,C.cg 1,_,C.cg 2,_,C.cg 3,_,C.cg 4,_,C.cg 5,_,C.cg 6,?_⟩;intro av;have B:dp (λe=>e=8) W D W av:=dp.ah K9.eI.new (show(λe=>e=8) (W v.size)from aG) _ _;have t:=K9.kD B λe hk=>V;have G:=t.eI.none λc _=>au c;exact⟨W,q,j,fc,rfl,⟨aj.eI G,t.aT,t.heap,F9.eI B λe hk=>V⟩,G⟩
end
section
variable{n e:Nat}{m2 mx M a:E}
def tQ:St:=⟨0,0,0,0,[],[],[]⟩
structure Y5 where
 s:St
 ok:Bool
open Classical in
noncomputable def xU (b:cO) (s:St) (a:Int):Y5:=if cY b s/\0<=a/\a<=100000 then⟨aD b a.toNat s,true⟩else⟨tQ,false⟩
def U1(a:cO)(s:St):kD a s=aD a 1 s:=rfl
def NL{a:cO}{s:St}:xU a s 1=(open Classical in if cY a s then⟨kD a s,true⟩else⟨tQ,false⟩):=by
 unfold xU;rcases dR (cY a s)with h|h
 .rw[an ⟨h,bh,bh⟩,an h];rfl
 .rw[ae λb=>h b.1,ae h]
def cY.jf{j:cO}{s:St}(h:cY j s)(b:Sm n s)(o:n<=900000000):zn s:=by
 refine⟨by have:=b.aT;omega,λc e=>(h.heap.cell c e).fl,oh b.heap,?_,λf g=>?_⟩
 .have:=h.depth;have:=h.bu;have:=h.dV;omega
 .have a:=h.ao f g;obtain⟨p,_,i,d,_⟩:=a.Jf h.fy;have k:=a.lr;have l:=a.lo;have m:=a.lh;rw[i]at k l m;have:=d.ak;omega
def DH.sm{s:St}(h:DH s)(a:s.heap.length<=n)(b:s.aT.length<=n):Sm n s:=⟨a,b,λg c w d=>((h.ao g c).1 w d).2⟩
section
variable{b:E}{c:Nat->Nat}{m:E}{aT f d:O}{s:St}
def pt.Ec(h:pt b c m aT f d s)(a:zn s):gE m aT f d s:=
 ⟨h.aT.nJ (oh a.aT),h.heap.cells (oh a.heap),h.ao.Ec (oh a.depth) a.ao⟩
def pt.cQ(h:pt b c m aT f d s)(j:J m m2){a:Nat}{g:List Ce}(i:m.size<=a)(kb:cE m2 a e g):vy b (od c a 1) m2 a e g aT f d s.aT s.heap s.ao:=by
 have C:dp (λ_=>False) c m (od c a 1) m2:=dp.od j h.bs.new i kb.lt 1;have B:=h.bs.eI C;exact⟨B.cy,B.jR,B.new,kb,fI _ _ _,h.aT.eI C id,h.heap.eI C id id,h.ao.eI C λ_ _=>id⟩
def pt.nil{b m:E}(a:J b m):pt b (λ_=>0) m .nil .nil .nil tQ:=
 ⟨⟨a,λ_ _=>rfl,λ_ _=>rfl⟩,⟨by simp[tQ],aL,Or.inl rfl⟩,⟨[],⟨aL,aL,Or.inl rfl⟩,by simpa[tQ]using gQ.nil _ _,Xk.nil⟩,nG.none⟩
def vy.Ec{h e:Nat}{a:List Ce}(L:vy b c m h e a aT f d s.aT s.heap s.ao)(g:zn s):gE m aT f d s:=
 pt.Ec (c:=c) ⟨⟨L.cy,L.jR,L.new⟩,L.aT,L.heap,L.ao⟩ g
end
def WG(m:E)(x:Y5)(v:Value)(c:E):Prop:=∃d aT b a,v=.tuple #[Na x.s aT b a,vb x.ok]/\pt m d c aT b a x.s
def iG.up{a:Nat->Nat}{m d:E}{f k:Nat}{s:O}{l:List Ce}(h:iG a m e f k s l)(j:k≠0)(g:∀b,b<mx.size->a b=0)(i:∀b,mx.size<=b->b<m.size->d[b]? =m[b]?):iG a d e f k s l:=
 h.eB (λc=>i _ (Hk λn=>j (by rw[<-(h.D c).2];exact g _ n)) (h.D c).1) λ_=>rfl
def pt.QX{m:E}{q:Nat->Nat}{aT p n:O}{s:St}(h:pt mx q M aT p n s)(y:m.size<=mx.size)(z:M.size<=a.size)(c:∀b,mx.size<=b->b<M.size->a[b]? =M[b]?)(w:J m a):pt m q a aT p n s:=by
 have d:=h.bs.jR;refine⟨⟨w,λb f=>d b V,λb f=>h.bs.new b V⟩,h.aT.up bh d c,?_,?_⟩
 .let⟨g,r,a2,a3⟩:=h.heap;refine⟨g,r.up bh d c,a2.mono λj x⟨i,u,k,l⟩=>⟨i,u,iQ k λf=>c _ (l f).2.1 (iF k f),λf=>?_⟩,a3⟩;let⟨g1,g2,t,tail,v,o⟩:=l f;exact⟨g1,V,t,tail,v,o.congr (c _ g2 o.lt)⟩
 .let⟨g,f⟩:=h.ao;exact⟨g,f.p7.up bh d c,f.len,f.size,λr j i k l=>by
   let⟨u,t,o,e,b1,b2,b3⟩:=f.dz r j i k l;exact⟨u,t,o,e,b1.up V d c,b2.up V d c,b3.up V d c⟩⟩
def pt.box{m:E}{d:Nat->Nat}{aT b a:O}{s:St}(h:pt mx d M aT b a s)(c:J m mx){nb:Nat}(e:m.size<=nb)(g:nb<mx.size)(o:Nat)(l:List Ce):pt m d (ah M nb o l) aT b a s:=
 h.QX c.size (tV (aw _ _ _ _).symm) (λf i _=>bd _ _ _ _ V) ((c.trans h.bs.cy).ah e _ _)
def pt.ext{e:E}{f:Nat->Nat}{aT d c:O}{s:St}(h:pt e f M aT d c s)(b:J M a):pt e f a aT d c s:=h.QX (ad _) b.size (λg _ i=>b.same g i) (h.bs.cy.trans b)
def Bs.yB(m:E):Bs m (λ_=>0) m:=⟨J.az _,λ_ _=>rfl,λ_ _=>rfl⟩
section
variable{m:E}{d p aT j i:O}{h:cO}{s:St}
def RS{m:E}{nb:Nat}(c:J m m2)(a:J m2 M)(b:m.size<=nb){x:Y5}(d:x=⟨tQ,false⟩)(l:List Ce):WG m x (.tuple #[.agg #[vi (0:Int),vi (0:Int),vi (0:Int),vi (0:Int),O.v O.nil,O.v O.nil,O.v O.nil],vb false]) (ah M nb 0 l):=by
 subst d;exact⟨_,.nil,.nil,.nil,rfl,pt.nil ((c.trans a).ah b _ _)⟩
variable(c:fw m d p h)(f:gE m aT j i s)(b:DH s)(g:s.aT.length<=10000000)
include c f b g
omit c f in
def TB:Sm 10000000 s:=b.sm b.lh g
omit c f in
def PV(c:Int):zn (xU h s c).s:=by
 unfold xU;split
 .rename_i a;exact(Bv _ a.1).jf (Bw _ a.1 (b.sm b.lh g) V) V
 .exact⟨by simp[tQ],by simp[tQ],by simp[tQ],by simp[tQ],by simp[tQ]⟩
def Gh:aN cp 14 [.agg #[O.v d,O.v p],Na s aT j i] m (WG m (xU h s 1)):=by
 apply Aj;simp -zeta only[aC,aB];rw[NL];intro u m2 r;have s1:u.size=m.size+1:=by simp[u]
 have s2:m2.size=m.size+2:=by simp[m2,s1]
 have s3:r.size=m.size+3:=by simp[r,s2]
 have w:J m r:=(((J.az m).aK _).aK _).aK _;clear_value r;have o:∀e∈[m2.size,u.size,m.size],e<r.size:=bE;refine(EW (c.ext w) (f.ext w) b).aH (J.az _) o λb4 W I k _=>⟨b4,rfl,λA=>RS w k V (by rw[ae (nb I A)]) _,λA=>?_⟩;have q:=yb I A;rw[an q];have t:=w.trans k;have z5:=t.size;have ac:=k.size;have n:=TB b g;refine(pR (Bs.yB W) (λ_=>dN _) (f.ext t) (q.jf n V)).mono ?_;rintro _ D ⟨aa,o6,H,G,rfl,Q,M⟩;have x:=M.uP;have z6:=x.size;refine⟨x.dv λe l=>k.lt (o e l),_,_,_,_,o6,H,G,rfl,aJ (x.same _ V) 0,aJ (x.same _ V) 1,?_⟩;intro v;have kb:cE v D.size bJ (SB d p s o6 H G):=cE.push D _ _;have y:=Q.cQ (m2:=v) (J.push D _) (ad _) kb;have L:zi _ v [m2.size,u.size,m.size]:=λe l=>⟨y.cy.lt (k.lt (o e l)),y.jR e (k.lt (o e l))⟩;clear_value v;refine(GX y (c.ext t) q n.uv (oh n.heap) (oh n.aT)).mono ?_;rintro _ X ⟨ab,Y,U,T,a,t8⟩;have K:=Bv 1 q;have C:=K.jf (Bw 1 q n V) V;rw[<-U1]at K C;generalize kD h s=S at*;refine⟨t8.dI L,_,a.box.cg 2,_,a.box.cg 3,_,a.box.cg 4,_,a.box.cg 5,Y,a.box.cg 6,U,a.box.cg 7,T,a.box.cg 8,(pR (Bs.yB X) (λ_=>dN _) (a.Ec C) C).mono ?_⟩;rintro _ m9 ⟨Z,E,B,z,rfl,R,N⟩;have F:=a.cy;have z8:=F.size;refine⟨N.uP.dv λe l=>F.lt (k.lt (o e l)),_,_,_,_,E,B,z,rfl,?_⟩;have P:=R.box (t.trans F) (nb:=m2.size) V V 0 [.i S.bV,.i S.value,.i S.bu,.i S.dV,.s E,.s B,.s z];exact⟨Z,E,B,z,rfl,P⟩
end
end
section
section
variable{m:E}{s t:O}
def FW{x y:bM}{q r:O}(h:ap m q x.aE)(k:ap m r y.aE):dt cp 73 [.agg #[vi x.aP,vi x.j9,O.v q],.agg #[vi y.aP,vi y.j9,O.v r]] m (x=y):=by
 apply zS;simp -zeta only[aC,aB];intro i d;let⟨a,g⟩:=dD (a:=i) (c:=d) rfl rfl;clear_value d;refine⟨λb=>⟨λc=>?_,λc=>bW (λh=>by simp[h]at c) a⟩,λb=>bW (λh=>by simp[h]at b) a⟩;refine(kO (h.ext a) (k.ext a)).aH (J.az _) g λe l f j _=>⟨e,rfl,eU ?_ (a.trans j)⟩;rw[f];cases x;cases y;simp at b c;simp[b,c]
def FX{l r:List bM}(f:cW m s l)(j:cW m t r):dt cp 37 [O.v s,O.v t] m (l=r):=by
 apply zT;have y:=f.len;have D:=j.len;refine⟨λh=>bW (λe=>?_) (J.az _),λh=>?_⟩
 .subst e;simp at h;omega
 have C:l.length=r.length:=by simp at h;omega
 refine dU (n:=l.length) (y▸f.gT) (λk a=>J m a/\l.take k=r.take k) ⟨J.az _,aL⟩ ?_;rintro k E I μ B ⟨b,d⟩ A
 refine dit (λx=>?_) λx=>?_
 .let⟨K,g⟩:=cG l k;let⟨L,c⟩:=cG r k;let⟨G,a,w,g1,g2⟩:=(cW.ext b f).aF g;let⟨H,z,q,u,v⟩:=(cW.ext b j).aF c;refine⟨V,V,_,w,_,g1,_,g2,V,V,_,q,_,u,_,v,(FW a z).mono ?_⟩;rintro _ F ⟨p,rfl,i,o⟩;refine⟨p,rfl,λa=>bW (λe=>nb i a ?_) (b.trans o),λa=>A V _ ⟨b.trans o,?_⟩⟩
  .subst e;rw[g]at c;simpa using c
  .rw[aU g,aU c,d,yb i a]
 .rw[bY V,bY V]at d;exact iO d b
def DZ{x y:aX}{r s t u v w:O}(C:ap m r (x.ak))(D:ap m s (x.aR))(E:ap m t (x.ba))(F:ap m u (y.ak))(G:ap m v (y.aR))(H:ap m w (y.ba)):
 dt cp 17 [.agg #[vi x.fE,vi x.pc,vi x.dst,O.v r,O.v s,O.v t],.agg #[vi y.fE,vi y.pc,vi y.dst,O.v u,O.v v,O.v w]] m (x=y):=by
 apply yz
 simp -zeta only[aC,aB]
 intro I q
 let⟨a,i⟩:=dD (a:=I) (c:=q) rfl rfl
 clear_value q
 refine⟨λc=>⟨λd=>⟨λe=>?_,λe=>bW (λh=>by simp[h]at e) a⟩,λd=>bW (λh=>by simp[h]at d) a⟩,λc=>bW (λh=>by simp[h]at c) a⟩
 refine(kO (C.ext a) (F.ext a)).aH (J.az _) i λz N o f L=>⟨z,rfl,λk=>?_,λk=>bW (λh=>fb o k (by rw[h])) (a.trans f)⟩
 have b:=a.trans f
 refine(kO (D.ext b) (G.ext b)).aH f i λA P p j M=>⟨A,rfl,λl=>?_,λl=>bW (λh=>fb p l (by rw[h])) (b.trans j)⟩
 have g:=b.trans j
 refine(kO (E.ext g) (H.ext g)).aH (f.trans j) i λB Q hd K _=>⟨B,rfl,eU ?_ (g.trans K)⟩
 rw[hd];have h:=o.1 k;have n:=p.1 l;cases x;cases y;simp at c d e h n;simp[c,d,e,h,n]
def Ck{l r:List aX}(f:jy m s l)(j:jy m t r):dt cp 38 [O.v s,O.v t] m (l=r):=by
 apply wT;have H:=f.len;have R:=j.len;refine⟨λh=>bW (λe=>?_) (J.az _),λh=>?_⟩
 .subst e;simp at h;omega
 have Q:l.length=r.length:=by simp at h;omega
 refine dU (n:=l.length) (H▸f.gT) (λk a=>J m a/\l.take k=r.take k) ⟨J.az _,aL⟩ ?_;rintro k S N μ P ⟨a,d⟩ M
 refine dit (λD=>?_) λD=>?_
 .let⟨aa,g⟩:=cG l k;let⟨ab,b⟩:=cG r k;let⟨U,W,X,E,F,G,z,g1,g2,A,B,C⟩:=(jy.ext a f).aF g;let⟨Y,Z,r5,I,K,L,q,u,v,w,x,y⟩:=(jy.ext a j).aF b;refine⟨V,V,_,z,_,g1,_,g2,_,A,_,B,_,C,V,V,_,q,_,u,_,v,_,w,_,x,_,y,(DZ E F G I K L).mono ?_⟩;rintro _ T ⟨p,rfl,i,o⟩;refine⟨p,rfl,λc=>bW (λe=>nb i c ?_) (a.trans o),λc=>M V _ ⟨a.trans o,?_⟩⟩
  .subst e;rw[g]at b;simpa using b
  .rw[aU g,aU b,d,yb i c]
 .rw[bY V,bY V]at d;exact iO d a
def lR{x y:St}{A h s B u t:O}(k:gE m A h s x)(l:gE m B u t y):dt cp 15 [Na x A h s,Na y B u t] m (x=y):=by
 apply yA;simp -zeta only[aC,aB];intro F z;let⟨a,j⟩:=dD (a:=F) (c:=z) rfl rfl;clear_value z;refine⟨λc=>⟨λd=>⟨λe=>⟨λf=>?_,λf=>bW (λh=>by simp[h]at f) a⟩,λe=>bW (λh=>by simp[h]at e) a⟩,λd=>bW (λh=>by simp[h]at d) a⟩,λc=>bW (λh=>by simp[h]at c) a⟩;refine(kO (k.aT.ext a) (l.aT.ext a)).aH (J.az _) j λC K v g H=>⟨C,rfl,λo=>?_,λo=>bW (λh=>fb v o (by rw[h])) (a.trans g)⟩;have b:=a.trans g;refine(FX (cW.ext b k.heap) (cW.ext b l.heap)).aH g j λD L w n I=>⟨D,rfl,λp=>?_,λp=>bW (λh=>fb w p (by rw[h])) (b.trans n)⟩;have i:=b.trans n;refine(Ck (jy.ext i k.ao) (jy.ext i l.ao)).aH (g.trans n) j λE M hd G _=>⟨E,rfl,eU ?_ (i.trans G)⟩;rw[hd];have q:=v.1 o;have r:=w.1 p;cases x;cases y;simp at c d e f q r;simp[c,d,e,f,q,r]
end
end
end Go.Proofs.YtkoifinbblcbiaaGreat
