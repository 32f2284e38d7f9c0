/- Part of a proof. -/
import Derived.Test.YtkoifinbblcbiaaGreatSG02
import Derived.Test.YtkoifinbblcbiaaGreatSG03
import Derived.Test.YtkoifinbblcbiaaGreatSG04
set_option linter.all false
set_option maxHeartbeats 8000000
set_option maxRecDepth 100000
namespace Go.Proofs.YtkoifinbblcbiaaGreat
open Go.Vc
section
variable{m:E}{s:O}{l:List Int}{h:List bN}{w:Int}{a:Nat}
def eN(c:ap m s l)(n:l.length<=1000000000):oF 56 [O.v s] m l:=by
 apply tH;have b:=c.len;refine⟨λh=>?_,λh=>?_⟩
 .cases s with
  |nil=>simp at b;have:l=[]:=List.length_eq_zero_iff.1 b.symm;subst this;exact⟨.nil,rfl,gY.nil _ _ _ _,J.az _⟩
  |mk a o e d=>simp at h
  |zW a o d=>simp at h
 .intro d;have a:J m d:=(J.az m).aK _;have f:gY m d aA 1 (.mk m.size 0 0 0) []:=gY.new (J.az m) aA 1 [] 0 aL;refine gY.append (zs:=[.i 0]) (d:=l.map Ce.i) f a (by simp[b]) (c.ext a).Im bF λr o a e g i j k=>⟨r,rfl,by simpa using a,e⟩
def sC(g:ap m s l)(b:Int):aN cq 110 [O.v s,vi b] m λv i=>∃r:Int,v=vi r/\J m i/\((r= -1/\b∉l)\/(b∈l/\r=tv l b)):=by
 apply tJ;have j:=g.len;refine dT (n:=l.length) (j▸g.gV) (λk i=>J m i/\b∉l.take k) ⟨J.az _,aL⟩ ?_;rintro k u I μ t ⟨f,e⟩ p
 refine dit (λh=>?_) λh=>?_
 .let⟨x,d⟩:=cG l k;refine⟨V,V,x,by simpa using f.af (g.aG d),λc=>?_,λc=>p V _ ⟨f,?_⟩⟩
  .simp at c;subst c;refine⟨_,rfl,f,Or.inr ⟨aq d,?_⟩⟩;have:tv l b=k:=by
    unfold tv;rw[List.findIdx_eq (aw d)];refine⟨by have:=(List.getElem?_eq_some_iff.1 d).2;simp[this],λo q=>?_⟩;simp;intro a;apply e;rw[<-a];exact List.mem_take_iff_getElem.2 ⟨o,V,rfl⟩
   rw[this]
  .rw[aU d];simp at c;intro a;rcases List.mem_append.1 a with a|a
   .exact e a
   .simp at a;exact c a
 .rw[bX V]at e;exact⟨_,rfl,f,Or.inl ⟨rfl,e⟩⟩
def lW(c:ap m s l)(n:Int):dt cq 169 [O.v s,vi n] m (n∈l):=by
 apply rI;refine(sC c n).mono ?_;rintro _ f ⟨r,rfl,d,h⟩;refine⟨_,rfl,eU ?_ d⟩;simp only[oD,ar];rcases h with⟨rfl,h⟩|⟨b,e⟩
 .exact⟨λa=>V,λa=>absurd a h⟩
 .exact⟨λ_=>b,λ_=>V⟩
def Cz{t:O}{r:List Int}(d:ap m s l)(i:ap m t r):dt cq 172 [O.v s,O.v t] m (l=r):=by
 apply tI;have j:=d.len;have q:=i.len;refine⟨λh=>bV (λe=>by subst e;simp at h;omega) (J.az _),λh=>?_⟩;simp at h;refine dT (n:=l.length) (j▸d.gV) (λk a=>J m a/\l.take k=r.take k) ⟨J.az _,aL⟩ ?_;rintro k u I μ p ⟨b,g⟩ o
 refine⟨λh=>?_,λh=>iR (by simp at h;rwa[bX V,bX V]at g) b⟩;simp only[ar]at h;let⟨x,f⟩:=cG l k;let⟨y,c⟩:=cG r k;refine⟨V,V,x,by simpa using b.af (d.aG f),V,V,y,by simpa using b.af (i.aG c),λa=>bV (λe=>?_) b,λa=>o V _ ⟨b,?_⟩⟩
 .subst e;rw[f]at c;simp at c;simp at a;exact a c
 .rw[aU f,aU c,g];simp at a;rw[a]
def iu{a:O}(i:cW m a h)(u:w<=9223372036854775807):
 aN cq 153 [O.v a,vi w] m λv p=>∃(j:Int)(e:Bool),v=.tuple #[vi j,vb e]/\(e=true<->gA h w)/\(e=true->j=ix w)/\J m p:=by
 apply Gf
 have k:=i.len
 have t:=i.gV
 refine⟨λc=>?_,λc=>?_⟩
 .simp at c
  have l:cO (w -1000)=w -1000:=aP V V
  have o:(ix w:Int)=w -1000:=by unfold ix;omega
  rw[l]
  refine⟨λg=>?_,λg=>?_⟩
  .simp at g
   let⟨f,b⟩:=cG h ((w -1000).toNat)
   obtain⟨r,s,n,_⟩:=i.aG b
   refine⟨V,V,f.aQ,n,_,_,rfl,?_,λ_=>o.symm,J.az _⟩
   simp only[kH,ar]
   refine⟨λa=>⟨c,f,b,a⟩,λ⟨_,q,d,a⟩=>?_⟩
   unfold ix at d
   rw[b]at d;simp at d;subst d;exact a
  .simp at g
   refine⟨_,_,rfl,⟨sx,λ⟨_,f,b,_⟩=>?_⟩,sx,J.az _⟩
   have:=aw b
   omega
 .simp at c
  exact⟨_,_,rfl,⟨sx,λk=>oh k.1⟩,sx,J.az _⟩
def Ll{b:O}(f:af m a 8=some (O.v b))(g:cW m b h)(i:w<=9223372036854775807):dt cq 97 [vp a 0,vi w] m (gA h w):=by
 apply ui (a,0);refine⟨b,f,(iu g i).mono ?_⟩;rintro _ k ⟨c,d,rfl,e,_,j⟩;exact⟨c,d,rfl,eU e j⟩
def Ej(e:ap m s l)(q:l.length<=100000000):oF 173 [O.v s] m (kW l):=by
 apply yO;have p:=e.len;refine ez (n:=l.length) V (λk s a=>J m a/\gY m a aA 1 s ((kW (l.take k)).map Ce.i)) ⟨J.az _,by simpa[kW]using gY.nil m m aA 1⟩ ?_;rintro k s r I μ o ⟨b,a⟩ f
 refine dit (λh=>?_) λh=>?_
 .let⟨x,c⟩:=cG l k;refine⟨V,V,x,by simpa using b.af (e.aG c),λd=>?_,λg=>?_⟩
  .intro t;refine nQ a b (by have:=nR (l.take k);simp at this;omega) λv u i j=>f V _ _ ⟨j,?_⟩
   rw[aU c,pd];have:kW [x]=[x]:=by simp at d;simp[kW,d]
   rw[this];exact i
  .refine f V _ _ ⟨b,?_⟩
   rw[aU c,pd];have:kW [x]=[]:=by simp at g;simp[kW];omega
   rw[this,dX];exact a
 .rw[bX V]at a;exact⟨s,rfl,a,b⟩
def yi(g:ap m s l):dt cq 99 [O.v s] m (Sp l):=by
 apply Ed;refine(iY g 170 #[] #[] bn (λx=>x≠0) (λx _ i d=>?_)).then λb j f d=>⟨b,rfl,eU ?_ d⟩
 .simp only[eE,dX];apply Ab;exact eU aL (J.az _)
 .have e:(!b)=true<->¬(b=true):=aL;rw[e,f];unfold Sp;constructor
  .intro h n c;exact dQ λa=>h ⟨n,c,a⟩
  .rintro h ⟨n,c,a⟩;exact a (h n c)
def vW{am U:O}{b:cT}(ac:fg m am U b)(g1:af m a 1=some (O.v U)){x:Instr}(hc:zH b x){o j:O}(z:ap m o x.args)(aQ:x.args.length<=1000000)(ao:(x.op=16\/x.op=17)->1<=x.args.length):
 aN cq 95 [vp a 0,xv x o j] m λaE T=>∃s l,aE=.tuple #[O.v s,O.v l]/\ap T s (bU b x)/\ap T l (if x.op=9\/x.op=24 then fI b x 0 x.args else[])/\J m T/\(s=.nil\/s.D=o.D\/m.size<=s.D)/\(l=.nil\/m.size<=l.D):=by
 apply sM (a,0)
 simp -zeta only[aD,aC]
 intro c
 have v:J m c:=(J.az m).aK _
 have Q:∀p∈[m.size],p<c.size:=by simp[c]
 have s1:c.size=m.size+1:=by simp[c]
 have ab:=z.len
 have aH:=z.cap
 have N:ap c .nil []:=⟨rfl,aL,aL,aL⟩
 clear_value c
 refine⟨λe=>?_,λq=>⟨λe=>?_,λt=>⟨λe=>?_,λr=>?_⟩⟩⟩
 .simp only[bR,aI]at e
  refine⟨o,.nil,rfl,?_,by rw[ae V];exact N,v,Or.inr (Or.inl rfl),Or.inl rfl⟩
  unfold bU;rw[an V];exact z.ext v
 .simp only[bR,aI]at e
  simp only[br,aj]at q
  refine⟨V,V,V,_,.nil,rfl,?_,by rw[ae V];exact N,v,Or.inr (Or.inl ?_),Or.inl rfl⟩
  .unfold bU;rw[ae V,an e]
   exact eT.TB (z.ext v) (ao e)
  .cases o with
   |nil=>simp at ab;omega
   |zW p d f=>simp at ab;omega
   |mk p d l f=>rfl
 .simp only[bR,aI]at e
  simp only[br,aj]at q t
  let⟨h0,aR,K⟩:=hc e
  have aP:=ac.cF.len
  have aO:=aw K
  have aB:∃(w:O->O->Int->E->Prop)(μ0:O->O->Int->E->Nat),w O.nil O.nil (0:Int) c/\(∀(ak:O)(cR:O)(i:Int)(d:E),w ak cR i d->∃k:Nat,i=k/\k<=x.args.length/\J c d/\gY c d aA 1 ak ((ju b x k).map Ce.i)/\gY c d aA 1 cR ((fI b x 0 (x.args.take k)).map Ce.i)/\(ak≠.nil->cR≠.nil->ak.D≠cR.D))/\
   (∀(ak cR:O)(k:Nat)(d:E),k<=x.args.length->J c d->gY c d aA 1 ak ((ju b x k).map Ce.i)->gY c d aA 1 cR ((fI b x 0 (x.args.take k)).map Ce.i)->(ak≠.nil->cR≠.nil->ak.D≠cR.D)->w ak cR k d)/\(∀o p i m,μ0 o p i m=((x.args.length:Int) -i).toNat):=
   ⟨λak cR i d=>∃k:Nat,i=k/\k<=x.args.length/\J c d/\gY c d aA 1 ak ((ju b x k).map Ce.i)/\gY c d aA 1 cR ((fI b x 0 (x.args.take k)).map Ce.i)/\(ak≠.nil->cR≠.nil->ak.D≠cR.D),λ_ _ i _=>((x.args.length:Int) -i).toNat,
    ⟨0,rfl,dH _,J.az _,by simpa[ju,iG]using gY.nil c c aA 1,by simpa[fI]using gY.nil c c aA 1,λh=>absurd rfl h⟩,λ_ _ _ _ h=>h,λak cR k d f g u y A=>⟨k,rfl,f,g,u,y,A⟩,λ_ _ _ _=>rfl⟩
  let⟨w,μ0,aq,ay,ag,hμ⟩:=aB
  refine⟨w,μ0,aq,?_⟩
  intro ak cR i d hI
  obtain⟨k,rfl,hk,aa,o1,o2,I⟩:=ay ak cR i d hI
  have L:=v.trans aa
  refine dit (λh=>?_) λh=>?_
  .let⟨y,R⟩:=cG x.args k
   obtain⟨a',l',c',aG,av,aJ,k0,k1,_⟩:=(ac.ext L).cF.aG K
   have ai:(x.args.take k).length=k:=bF
   have al:ju b x (k+1)=ju b x k++iG b x k [y]:=by
    unfold ju;rw[aU R,vE,ai,bT]
   have ah:fI b x 0 (x.args.take (k+1))=fI b x 0 (x.args.take k)++fI b x k [y]:=by
    rw[aU R,qY,ai,bT]
   have aK:(ju b x k).length<=k:=bI (tZ _ _ _ _) bF
   have aM:(fI b x 0 (x.args.take k)).length<=k:=by
    have:∀(l:List Int)(j:Nat),(fI b x j l).length<=l.length:=by
     intro l;induction l with
     |nil=>intro j;exact ad _
     |cons aF l S=>intro j;have:=S (j+1);simp only[fI];split<;>simp<;>omega
    have:=this (x.args.take k) 0;omega
   have Z:cO ((k:Int)+1)=((k+1:Nat):Int):=jW (n:=x.args.length) V V
   refine⟨V,V,y,by simpa using L.af (z.aG R),U,L.af g1,h0,V,l',k1,(lW av _).aH aa Q λp M hb u F=>⟨p,rfl,λau=>?_,λar=>?_⟩⟩
   .have A:=(Lq K k).2 (hb.1 au)
    intro g
    have s4:g.size=M.size+1:=by simp[g]
    have P:=o1.ext u
    have ax:cR.len=(fI b x 0 (x.args.take k)).length:=by have:=o2.len;simp at this;omega
    refine gY.append (zs:=[.i 0]) (d:=[.i y]) ((o2.ext u).ext (J.push _ _)) (F.aK _) rfl (cD.push M _ _).iD bF λs m5 W D q3 q4 X Y=>⟨J.tG (F.aK _) D Q,?_⟩
    rw[Z]
    have az:=u.size
    refine⟨ag _ _ _ _ V D ?_ ?_ ?_,by rw[hμ,hμ];omega⟩
    .rw[al]
     have:iG b x k [y]=[]:=by simp only[iG];rw[an A]
     rw[this,dX]
     rcases P.lt with e|e
     .subst e;exact⟨P.len,Or.inl rfl⟩
     .refine P.congr ?_
      rw[X _ (show _<g.size by omega) (λC=>?_),mP,ae V]
      by_cases B:ak=.nil
      .subst B
       rcases o2.D with r|r
       .exact absurd r C
       .simp;omega
      .exact I B C
    .rw[ah]
     have:fI b x k [y]=[y]:=by simp only[fI];rw[an A]
     rw[this];simpa using W
    .intro G H
     rcases Y with⟨_,e⟩|⟨q,t,_⟩|e
     .exact absurd e H
     .rw[t];exact I G q
     .rw[e]
      rcases P.lt with f|f
      .exact absurd f G
      .show ak.D≠g.size;omega
   .have A:¬nC b x k=true:=λhh=>fb hb ar ((Lq K k).1 hh)
    intro g
    have s4:g.size=M.size+1:=by simp[g]
    have P:=o2.ext u
    have ax:ak.len=(ju b x k).length:=by have:=o1.len;simp at this;omega
    refine gY.append (zs:=[.i 0]) (d:=[.i y]) ((o1.ext u).ext (J.push _ _)) (F.aK _) rfl (cD.push M _ _).iD bF λs m5 W D q3 q4 X Y=>⟨J.tG (F.aK _) D Q,?_⟩
    rw[Z]
    have az:=u.size
    refine⟨ag _ _ _ _ V D ?_ ?_ ?_,by rw[hμ,hμ];omega⟩
    .rw[al]
     have:iG b x k [y]=[y]:=by simp only[iG];rw[ae A]
     rw[this];simpa using W
    .rw[ah]
     have:fI b x k [y]=[]:=by simp only[fI];rw[ae A]
     rw[this,dX]
     rcases P.lt with e|e
     .subst e;exact⟨P.len,Or.inl rfl⟩
     .refine P.congr ?_
      rw[X _ (show _<g.size by omega) (λC=>?_),mP,ae V]
      by_cases B:cR=.nil
      .subst B
       rcases o1.D with r|r
       .exact absurd r C
       .simp;omega
      .exactλe5=>I C B e5.symm
    .intro G H
     rcases Y with⟨_,e⟩|⟨q,t,_⟩|e
     .exact absurd e G
     .rw[t];exact I q H
     .rw[e]
      rcases P.lt with f|f
      .exact absurd f H
      .show g.size≠cR.D;omega
  .have g:x.args.take k=x.args:=bX V
   rw[g]at o2
   unfold ju at o1
   rw[g]at o1
   have A:=tZ b x x.args 0
   have u:∀(l:List Int)(j:Nat),(fI b x j l).length<=l.length:=by
    intro l;induction l with
    |nil=>intro j;exact ad _
    |cons aF l S=>intro j;have:=S (j+1);simp only[fI];split<;>simp<;>omega
   have y:=u x.args 0
   refine⟨ak,cR,rfl,?_,?_,L,?_,?_⟩
   .unfold bU;rw[ae V,ae V,an e];exact ap.gD o1 V
   .rw[an e];exact ap.gD o2 V
   .rcases o1.D with f|f
    .exact Or.inl f
    .exact Or.inr (Or.inr V)
   .rcases o2.D with f|f
    .exact Or.inl f
    .exact Or.inr V
 .simp only[br,aj]at q t r
  refine⟨.nil,.nil,rfl,?_,by rw[ae V];exact N,v,Or.inl rfl,Or.inl rfl⟩
  unfold bU;rw[ae V,ae V,ae V];exact N
end
section
variable{b:E}{i e:Nat}{d p g k h a j:O}{c:cT}{s:St}{f:aY}{x:Instr}
def Ib:∀(l:List (Int×Int))(k v j:Int),vr (JU l k v) j=if j=k then v else vr l j
 |[],k,v,j=>by simp[JU,vr]
 |(a,c)::g,k,v,j=>by
  simp only[JU];split
  .rename_i h;subst h;simp only[vr];split<;>simp_all
  .rename_i h;simp only[vr];split
   .rename_i b;subst b;rw[ae (λe=>h e.symm)]
   .exact Ib g k v j
def P6(l:List Int)(k:Nat)(a:Nat):eB (l.take k) a<=eB l a:=by
 have:eB l a=eB (l.take k) a+eB (l.drop k) a:=by rw[<-lU,dk]
 have:=iF (l.drop k) a;omega
def wc{m:O}{h:List bN}(Y:af b i 8=some (O.v m))(L:cW b m h){t:Nat->Int}(H:fO h t){c:bN}(W:c∈h){f:O}(X:ap b f c.aF)(aB:h.length<=2000000000):
 dt cq 171 [vp i 0,.agg #[vi c.aQ,vi c.kj,O.v f]] b (c.aQ=1\/ln h c.aF):=by
 apply sP (i,0)
 unfold nL
 simp -zeta only[aD,aC]
 intro e
 have z:J b e:=(J.az b).aK _
 have s1:e.size=b.size+1:=by simp[e]
 have Z:∀g∈[b.size],g<e.size:=by simp[s1]
 have az:=(H.cell c W).fl
 have aA:=X.len
 have aE:=L.len
 clear_value e
 refine⟨λu=>iR (Or.inl (by simpa using u)) z,λu=>?_⟩
 simp only[aj]at u
 intro B
 have ah:J e B:=(J.az e).aK _
 have ar:DH B e.size []:=⟨#[],0,by simp[B],rfl⟩
 clear_value B
 refine dT (n:=c.aF.length) V (λk d=>J e d/\∃l,DH d e.size l/\(∀a:Nat,vr l a=eB (c.aF.take k) a)/\∀w∈c.aF.take k,1000<=w->(aM h w).aQ+eB (c.aF.take k) (ix w)<=999999) ⟨ah,[],ar,λa=>by simp[vr,eB],aL⟩ ?_
 rintro k m3 ay μ hk ⟨D,l,ab,N,x⟩ ag
 have A:=z.trans D
 refine dit (λh2=>?_) λh2=>?_
 .let⟨w,o⟩:=cG c.aF k
  have ac:1000<=w->gA h w:=λm=>H.field W (aq o) m
  have ax:w<=9223372036854775807:=by
   rcases eg (1000<=w)with q|q
   .have:=aw (bS (ac q)).1;unfold ix at this;omega
   .omega
  refine⟨V,V,w,by simpa using A.af (X.aG o),m,A.af Y,(iu (cW.ext A L) ax).aH D Z ?_⟩
  rintro _ m4 ⟨a,g,rfl,v,ai,F⟩
  have p:=D.trans F
  have aN:=z.trans p
  have ao:e.size<m3.size:=by obtain⟨T,S,G,_⟩:=ab;exact(Array.getElem?_eq_some_iff.1 G).1
  have P:DH m4 e.size l:=by obtain⟨T,S,G,r⟩:=ab;exact⟨T,S,by rw[F.same _ ao];exact G,r⟩
  have j:∀a:Nat,eB (c.aF.take (k+1)) a=eB (c.aF.take k) a+(if w=1000+(a:Int)then 1 else 0):=λa=>by
   rw[aU o,lU];simp[eB]
  refine⟨F,a,g,rfl,λU=>?_,λak=>?_⟩
  .have M:=v.1 U
   have I:=ai U
   subst I
   have ad:=iv M.1
   have aJ:=iF (c.aF.take k) (ix w)
   have aI:=kC (c.aF.take k) (ix w)
   have aF:(c.aF.take k).length<=3:=bF
   have e1:cO (vr l (ix w)+1)=eB (c.aF.take (k+1)) (ix w):=by
    rw[N,j,an ad.symm];exact aP V V
   refine⟨l,P,l,P,?_⟩
   rw[e1]
   intro m5 aa av am
   have E:J e m5:=⟨by rw[av];exact p.size,λg v=>by rw[am g V,p.same g v]⟩
   have R:=z.trans E
   let⟨K,aK⟩:=bS M
   obtain⟨f5,_,k0,_⟩:=(cW.ext R L).aG K
   have aG:=aw K
   have aH:=(H.cell _ (aq K)).hi
   have al:vr (JU l (ix w) (eB (c.aF.take (k+1)) (ix w))) (ix w)=eB (c.aF.take (k+1)) (ix w):=by rw[Ib,an rfl]
   have au:=j (ix w)
   rw[an ad.symm]at au
   have e2:cO ((aM h w).aQ+eB (c.aF.take (k+1)) (ix w))=(aM h w).aQ+eB (c.aF.take (k+1)) (ix w):=aP V V
   refine⟨J.tG p E Z,m,R.af Y,V,V,_,by simpa using k0,_,aa,trivial,trivial,?_⟩
   rw[al,e2]
   refine⟨λr=>bV (λs=>?_) R,λr=>ag V _ ⟨E,_,aa,λa=>?_,λC d y=>?_⟩⟩
   .rcases s with s|s
    .exact u s
    .have:=s w (aq o) M.1
     have:=P6 c.aF (k+1) (ix w)
     simp at r;omega
   .rw[Ib]
    by_cases I:(a:Int)=ix w
    .have:a=ix w:=V
     subst this;rw[an rfl]
    .rw[ae I,N,j,ae V];omega
   .by_cases Q:C=w
    .subst Q;simp at r;omega
    .rw[j,ae (λt=>Q (by rw[iv y]at t;exact t.symm))]
     rw[aU o]at d
     rcases List.mem_append.1 d with d|d
     .have:=x C d y;omega
     .simp at d;exact absurd d Q
  .have s:¬gA h w:=fb v ak
   have E:w<1000:=by
    rcases eg (1000<=w)with q|q
    .exact absurd (ac q) s
    .omega
   refine ag V _ ⟨p,l,P,λa=>by rw[N,j,ae V];omega,λC d y=>?_⟩
   rw[j,ae V]
   rw[aU o]at d
   rcases List.mem_append.1 d with d|d
   .have:=x C d y;omega
   .simp at d;omega
 .rw[bX V]at x
  exact iR (Or.inr x) A
structure FP(b:E)(fb e:Nat)(f:aY)(g k h:O):Prop where
 g3:af b fb (e+3)=some (O.v g)
 g4:af b fb (e+4)=some (O.v k)
 g5:af b fb (e+5)=some (O.v h)
 ak:ap b g f.ak
 aR:ap b k f.aR
 ba:ap b h f.ba
def FP.ext{b c:E}{fb e:Nat}{f:aY}{g k h:O}(F:FP b fb e f g k h)(a:J b c):FP c fb e f g k h:=⟨a.af F.g3,a.af F.g4,a.af F.g5,F.ak.ext a,F.aR.ext a,F.ba.ext a⟩
def HW{fb:Nat}{aS K fr:O}(l:RV b i 3 d p aS K fr c s)(ai:af b i 2=some (vi (cg c))){fs:List aY}(C:zG c s fs f x)(M:FP b fb e f g k h)(v:ap b a x.args)(aI:x.op=11)(aj:s.heap.length<=2000000000):
 dt cq 100 [vp i 0,vp fb e,xv x a j] b (vM c s.heap (aG f.ak (aG x.args 0))):=by
 apply sO (i,0) (fb,e)
 simp -zeta only[aD,aC]
 intro u
 have r:J b u:=(J.az b).aK _
 have s1:u.size=b.size+1:=by simp[u]
 clear_value u
 have hl:∀B∈[b.size],B<u.size:=by simp[s1]
 have au:=v.len
 have aL:=M.ak.len
 have h2:=C.ly.2.2.1 V
 have q:0<=aG x.args 0/\aG x.args 0<f.ak.length:=C.arg _ (fx V V)
 have an:=C.F.pR q.1 q.2 C.MM
 have N:=M.ext r
 have S:=C.ok.heap
 have X:=C.ok.fy
 refine⟨K,r.af l.ru,g,N.g3,V,V,_,(v.ext r).pH V V,q.1,V,_,N.ak.pH q.1 q.2,?_⟩
 generalize aG f.ak (aG x.args 0)=w at*
 refine(iu (cW.ext r l.heap) an.2).aH (J.az _) hl ?_
 rintro _ L ⟨aa,B,rfl,T,ag,E⟩
 have z:=r.trans E
 refine⟨E,aa,B,rfl,λah=>bV (λm=>nb T ah m.1) z,λU=>?_⟩
 have Y:=yb T U
 have v:=ag (by simpa using U)
 subst v
 let⟨y,al⟩:=bS Y
 have R:=S.cell _ (aq y)
 have aO:=(R.oX al).2
 have aH:=aw y
 have aE:=l.heap.len
 let⟨D,W,k0,k1,k2⟩:=(cW.ext z l.heap).aG y
 refine⟨K,z.af l.ru,V,V,_,by simpa using k0,_,by simpa using k1,D,by simpa using k2,?_⟩
 intro m3 o
 have P:J L o:=((J.az L).aK _).ah (ad _) _ _
 have s4:o.size=L.size+1:=by simp[o,m3,av]
 clear_value o
 have n:=z.trans P
 have ar:(eS c.bo).length<=12:=by
  have:=rq X.nT.types c.bo.length;rw[mU _ _ (ad _)]at this;exact this
 have az:(cg c)=((eS c.bo).length:Int):=rfl
 have aK:=l.fy.cF.len
 have aJ:=X.nT.len
 have e1:cO ((aM s.heap w).kj -cg c)=(aM s.heap w).kj -cg c:=aP V V
 refine⟨cg c,n.af ai,?_⟩
 rw[e1]
 refine⟨λF=>bV (λm=>by have:=m.2.1;simp at F;omega) n,λF=>⟨p,n.af l.cF,λG=>bV (λm=>by have:=m.2.2.1;simp at G;omega) n,λG=>?_⟩⟩
 simp at F G
 let⟨ao,Z⟩:=cG c.cF (((aM s.heap w).kj -cg c).toNat)
 have am:dO c ((aM s.heap w).kj -cg c)=ao:=by simp[dO,Z]
 let⟨a',l',c',ac,ak,ay,j0,j1,j2,j3,j4⟩:=(l.fy.ext n).cF.aG Z
 have ax:=ac.len
 have aF:=ak.len
 have aB:=W.len
 have aA:=R.fl
 refine⟨p,n.af l.cF,V,V,a',j0,l',j1,_,j2,_,j3,c',j4,?_⟩
 intro m5 A
 have Q:J o A:=((J.az o).aK _).ah (ad _) _ _
 have s6:A.size=o.size+1:=by simp[A,m5,av]
 clear_value A
 have t:=n.trans Q
 have e3:cO ((D.len:Int)+1)=(D.len:Int)+1:=aP V V
 rw[e3]
 unfold vM
 rw[am]
 have aN:=E.size
 refine⟨λH=>⟨λI=>?_,λI=>bV (λm=>by have:=m.2.2.2.1;simp at I;omega) t⟩,λH=>bV (λm=>by have:=m.2.2.2.2.1;simp at H;omega) t⟩
 simp at H I
 refine(wc (t.af l.ru) (cW.ext t l.heap) S (aq y) (W.ext (P.trans Q)) aj).aH (J.az _) bF λb2 m7 ae ab _=>⟨b2,rfl,eU (ae.trans ?_) (t.trans ab)⟩
 exact⟨λhs=>⟨Y,V,V,V,V,hs⟩,λm=>m.2.2.2.2.2⟩
def Ei{fb:Nat}{aS hp fr:O}(A:RV b i 3 d p aS hp fr c s){fs:List aY}(C:zG c s fs f x)(H:FP b fb e f g k h)(L:ap b a x.args)(aL:x.op=14\/x.op=19\/x.op=21\/x.op=16\/x.op=17)(aJ:s.heap.length<=2000000000):
 dt cq 101 [vp i 0,vp fb e,xv x a j] b ((x.op=14->gA s.heap (aG f.ak (aG x.args 0))/\(aM s.heap (aG f.ak (aG x.args 0))).aQ<999999)/\(x.op=19->gA s.heap (aG f.ak (aG x.args 0))/\x.bQ<(aM s.heap (aG f.ak (aG x.args 0))).aF.length)/\
  (x.op=21->gA s.heap (aG f.ak (aG x.args 0))/\(aM s.heap (aG f.ak (aG x.args 0))).kj∈cy c.bo x.bQ)/\((x.op=16\/x.op=17)->FC s.heap f x)):=by
 apply ry (i,0) (fb,e)
 simp -zeta only[aD,aC]
 intro Q
 have N:J b Q:=(J.az b).aK _
 have s1:Q.size=b.size+1:=by simp[Q]
 clear_value Q
 have hl:∀B∈[b.size],B<Q.size:=by simp[s1]
 have a0:=L.len
 have aZ:=L.cap
 have a9:=H.ak.len
 have a3:=H.ba.len
 have h4:=C.ly
 have a6:=C.Gl
 have aK:1<=x.args.length:=V
 have aV:=h4.1
 clear h4
 have D:0<=aG x.args 0/\aG x.args 0<f.ak.length:=C.arg _ (fx V V)
 have aO:=C.F.pR D.1 D.2 C.MM
 have F1:=H.ext N
 have hI:=C.ok.heap
 have aE:FC s.heap f x<->(gA s.heap (aG f.ak (aG x.args 0))/\kW (aM s.heap (aG f.ak (aG x.args 0))).aF=cL f (x.args.drop 1)/\((aM s.heap (aG f.ak (aG x.args 0))).aQ=1\/ln s.heap (aM s.heap (aG f.ak (aG x.args 0))).aF)/\(x.op=17->aG f.ba (aG x.args 0)=0)):=SZ
 rw[aE]
 refine⟨hp,N.af A.ru,g,F1.g3,V,V,_,(L.ext N).pH V V,D.1,V,_,F1.ak.pH D.1 D.2,?_⟩
 generalize aG f.ak (aG x.args 0)=w at*
 refine(iu (cW.ext N A.heap) aO.2).aH (J.az _) hl ?_
 rintro _ E ⟨ar,B,rfl,T,aH,Z⟩
 have X:=N.trans Z
 refine⟨Z,ar,B,rfl,λaI=>bV (λu=>?_) X,λaj=>?_⟩
 .have q:=nb T aI
  rcases aL with l|l|l|l
  .exact q (u.1 l).1
  .exact q (u.2.1 l).1
  .exact q (u.2.2.1 l).1
  .exact q (u.2.2.2 l).1
 have G:=yb T aj
 have aF:=aH (by simpa using aj)
 subst aF
 let⟨W,a8⟩:=bS G
 have ai:=hI.cell _ (aq W)
 have a7:=aw W
 have a4:=A.heap.len
 let⟨Y,ae,k0,k1,k2⟩:=(cW.ext X A.heap).aG W
 refine⟨hp,X.af A.ru,V,V,_,by simpa using k0,_,by simpa using k1,Y,by simpa using k2,?_⟩
 intro m3 z
 have aa:J E z:=((J.az E).aK _).ah (ad _) _ _
 have s4:z.size=E.size+1:=by simp[z,m3,av]
 have kB:af z E.size 1=some (vi (aM s.heap w).kj):=(cD.ah (m:=m3) (o:=0) (r:=[.i (aM s.heap w).aQ,.i (aM s.heap w).kj,.s Y]) (cD.push E _ _)).cp 1
 clear_value z
 have y:=X.trans aa
 have a_:=Z.size
 have F:∀B∈[E.size,b.size],B<z.size:=bF
 have a2:=ae.len
 refine⟨λl=>?_,λau=>⟨λl=>?_,λax=>⟨λl=>?_,λay=>?_⟩⟩⟩
 .simp at l
  refine eU ?_ y
  simp
  exact⟨λt=>⟨λ_=>⟨G,t⟩,λq=>V,λq=>V,λq=>V⟩,λt=>(t.1 l).2⟩
 .simp at l
  refine eU ?_ y
  simp
  exact⟨λt=>⟨λq=>V,λ_=>⟨G,V⟩,λq=>V,λq=>V⟩,λt=>oh ((t.2.1 l).2)⟩
 .simp at l
  refine⟨d,y.af A.bo,(tx (A.fy.ext y).bo C.ok.fy.nT.types _).aH (J.az _) F ?_⟩
  rintro _ m5 ⟨I,rfl,K,v⟩
  refine⟨v,I,rfl,v.da kB,(lW K _).aH v F λb2 m6 U ac ab=>⟨b2,rfl,eU (U.trans ?_) (y.trans ab)⟩⟩
  exact⟨λt=>⟨λq=>V,λq=>V,λ_=>⟨G,t⟩,λq=>V⟩,λt=>(t.2.2.1 l).2⟩
 .simp at au ax ay
  have R:x.op=16\/x.op=17:=V
  have e1:(Int.toNat (1:Int))=1:=rfl
  have e2:(Int.toNat (a.len:Int))=a.len:=V
  rw[e1,e2]
  have al:=U1 (L.ext y) aK
  have a5:=al.len
  have a1:(x.args.drop 1).length<=4:=bF
  refine⟨V,V,V,?_⟩
  refine ez (n:=(x.args.drop 1).length) V (λah s' I=>J z I/\gY z I aA 1 s' ((cL f ((x.args.drop 1).take ah)).map Ce.i)) ⟨J.az _,by simpa[cL]using gY.nil z z aA 1⟩ ?_
  rintro ah s' m5 aT μ hk ⟨v,o5⟩ aQ
  have aP:=y.trans v
  refine dit (λt=>?_) λt=>?_
  .let⟨S,I⟩:=cG (x.args.drop 1) ah
   have K:=C.arg S (wT (aq I))
   have M:=H.ext aP
   refine⟨V,V,S,by simpa using(al.ext v).aG I,g,M.g3,K.1,V,_,M.ak.pH K.1 K.2,?_⟩
   intro m6
   refine nQ o5 v (by simp[cL];omega) λag m7 q1 P=>⟨J.tG (v.aK _) P F,aQ V _ _ ⟨P,?_⟩⟩
   rw[aU I]
   simpa[cL]using q1
  .rw[bX V]at o5
   have i5:ap m5 s' (cL f (x.args.drop 1)):=ap.gD o5 (by simp[cL];omega)
   refine(Ej (ae.ext (aa.trans v)) (oh ai.fl)).aH (Ps (nR (aM s.heap w).aF) ai.fl) (λB T=>v.lt (F B T)) λps m6 o6 i6 ac=>⟨ps,rfl,?_⟩
   have ab:=v.trans ac
   refine(Cz i6 (i5.ext ac)).aH ab F λb2 m7 U aW S=>⟨b2,rfl,λh8=>bV (λu=>nb U h8 (u.2.2.2 R).2.1) (y.trans S),λh8=>?_⟩
   have ak:=yb U h8
   have P:=y.trans S
   have ao:aN cq 171 [vp i 0,.agg #[vi (aM s.heap w).aQ,vi (aM s.heap w).kj,O.v Y]] m7 λaR am=>eF [E.size,b.size] m7 am/\∃an:Bool,aR=vb an/\((an=true<->((aM s.heap w).aQ=1\/ln s.heap (aM s.heap w).aF))/\J b am):=
    (wc (P.af A.ru) (cW.ext P A.heap) hI (aq W) (ae.ext (aa.trans S)) aJ).aH S F λb3 m8 M aX aB=>⟨b3,rfl,M,y.trans aB⟩
   have F7:=H.ext P
   have az:aG x.args 0<f.ba.length:=V
   refine⟨λI=>⟨h,F7.g5,V,V,_,(L.ext P).pH V V,D.1,V,_,F7.ba.pH D.1 az,λK=>bV (λu=>?_) P,λK=>ao.mono ?_⟩,λI=>ao.mono ?_⟩
   .simp at I K;exact K ((u.2.2.2 R).2.2.2 I)
   .rintro _ m8 ⟨hs,b3,rfl,M,ag⟩
    refine⟨hs,b3,rfl,eU (M.trans ?_) ag⟩
    simp at K
    exact⟨λhf=>⟨λq=>V,λq=>V,λq=>V,λ_=>⟨G,ak,hf,λ_=>K⟩⟩,λu=>(u.2.2.2 R).2.2.1⟩
   .rintro _ m8 ⟨hs,b3,rfl,M,ag⟩
    refine⟨hs,b3,rfl,eU (M.trans ?_) ag⟩
    simp at I
    exact⟨λhf=>⟨λq=>V,λq=>V,λq=>V,λ_=>⟨G,ak,hf,λq=>absurd q I⟩⟩,λu=>(u.2.2.2 R).2.2.1⟩
end
section
variable{b:E}{c:Nat}{a:aY}{d e h:O}
def uZ(ak:List Int):∀(b a aR:List Int),bD ak aR (b++a)=bD ak (bD ak aR b) a
 |[],a,aR=>rfl
 |y::b,a,aR=>by simp only[cZ,bD,uZ ak b a]
def MS{f fb:Nat}(i:af b f 0=some (vp fb c))(F:FP b fb c a d e h){x:Int}(g:0<=x/\x<a.ak.length):dt cq 98 [vi x,vp f 0] b (1000<=aG a.ak x):=by
 apply vm (f,0);have j:=F.ak.len;exact⟨(fb,c),i,d,F.g3,g.1,V,_,F.ak.pH g.1 g.2,eU aL (J.az _)⟩
def P2{mb fb:Nat}{a4 bp aS u fr:O}{g:cT}{N:St}(R:RV b mb 3 a4 bp aS u fr g N)(bb:af b mb 2=some (vi (cg g))){fs:List aY}{x:Instr}(C:zG g N fs a x){au bl:O}(Q:FP b fb c a d e h)(Z:ap b au x.args)(a1:N.heap.length<=2000000000):
 dt cq 59 [vp mb 0,vp fb c,xv x au bl] b (lp g N a x (bD a.ak a.aR (bU g x))):=by
 apply xk (mb,0) (fb,c)
 simp -zeta only[aD,aC]
 intro m1 L
 have w:J b L:=((J.az b).aK _).aK _
 have s1:m1.size=b.size+1:=by simp[m1]
 have s2:L.size=b.size+2:=by simp[L,s1]
 have P:∀j∈[m1.size,b.size],j<L.size:=bF
 have kP:af L b.size 0=some (vp fb c):=((cD.push b [.p fb c] _).ext (J.push m1 _)).cp 0
 clear_value L
 have bu:=Z.len
 have bK:=Q.ak.len
 have bG:=Q.aR.len
 have bw:=Q.ba.len
 have bA:=C.Gl
 have hd:=C.dst
 have bh:=C.Zq
 refine⟨e,w.af Q.g4,(eN (Q.aR.ext w) V).aH V P λB m3 oq iq aH=>⟨B,rfl,?_⟩⟩
 have ay:=iq.len
 have aN:=w.trans aH
 refine(vW (R.fy.ext aN) (aN.af R.cF) C.call (Z.ext aN) (oh C.ly.1) C.ly.2.2.2.1).aH aH P ?_
 rintro _ U ⟨rs,ls,rfl,aB,aO,aJ,a3,a2⟩
 have a8:=aH.trans aJ
 have bo:=oq.ext aJ
 refine⟨aJ,rs,ls,rfl,?_⟩
 have bM:=Jg g x
 have bt:=C.ly.1
 have bL:=aB.len
 have a_:=C.KA
 have bi:∀ac∈a.aR,0<=ac:=λac T=>(C.OX ac T).1
 have bI:L.size<=B.D:=by
  rcases oq.D with k|k
  .subst k;simp at ay;omega
  .exact k
 have bJ:B.D<m3.size:=by
  rcases oq.lt with k|k
  .subst k;simp at ay;omega
  .exact k
 have aK:=C.arg
 have bE:=w.size
 have kr:∀{v:E},(∀j,j<U.size->j≠B.D->v[j]? =U[j]?)->ap v rs (bU g x):=λhk=>iT aB λG=>hk _ (iI aB G) λk=>by
  have ba:x.args≠[]:=λS=>by
   let⟨y,s⟩:=UD _ G;have:=Cn s;rw[S]at this;simp at this
  rcases a3 with W|W|W
  .subst W;have:=aB.len;simp at this;exact G (List.length_eq_zero_iff.1 this.symm)
  .rw[W]at k;have:=iI Z ba;omega
  .omega
 have kl:∀{v:E},(∀j,j<U.size->j≠B.D->v[j]? =U[j]?)->ap v ls (if x.op=9\/x.op=24 then fI g x 0 x.args else[]):=λhk=>iT aO λG=>hk _ (iI aO G) λk=>by
  rcases a2 with W|W
  .subst W;have:=aO.len;simp at this;exact G (List.length_eq_zero_iff.1 this.symm)
  .omega
 refine dT (n:=(bU g x).length) V (λp v=>J L v/\(∀j,j<U.size->j≠B.D->v[j]? =U[j]?)/\gY L v aA 1 B ((bD a.ak a.aR ((bU g x).take p)).map Ce.i)/\∀ac∈bD a.ak a.aR ((bU g x).take p),0<=ac) ⟨a8,λ_ _ _=>rfl,bo,bi⟩ ?_
 rintro p m5 bq μ hk ⟨ad,al,aE,K⟩ aV
 have F5:=Q.ext (w.trans ad)
 have bc:=ka a.ak ((bU g x).take p) a.aR
 have az:ap m5 B (bD a.ak a.aR ((bU g x).take p)):=ap.gD aE V
 refine dit (λh6=>?_) λh6=>?_
 .let⟨y,s⟩:=cG (bU g x) p
  have q:=a_ y (aq s)
  have D:bD a.ak a.aR ((bU g x).take (p+1))=if 1000<=aG a.ak y then gT (bD a.ak a.aR ((bU g x).take p)) y (aG (bD a.ak a.aR ((bU g x).take p)) y -1)else bD a.ak a.aR ((bU g x).take p):=by
   rw[aU s,uZ];rfl
  have H:y<(bD a.ak a.aR ((bU g x).take p)).length:=V
  have aW:=K _ (fx q.1 H)
  have aX:aG (bD a.ak a.aR ((bU g x).take p)) y<=999999:=by
   let⟨q',M,ak⟩:=kZ ((bU g x).take p) a.aR y.toNat _ (oH q.1 H);have:=(C.OX q' (aq M)).2;omega
  refine⟨V,V,y,by simpa using(kr al).aG s,d,F5.g3,q.1,V,_,F5.ak.pH q.1 q.2,λA=>?_,λA=>aV V _ ⟨ad,al,by rw[D,ae (by simpa using A)];exact aE,by rw[D,ae (by simpa using A)];exact K⟩⟩
  simp at A
  rw[an A]at D
  refine⟨q.1,V,_,az.pH q.1 H,q.1,V,?_⟩
  have e1:cO (aG (bD a.ak a.aR ((bU g x).take p)) y -1)=aG (bD a.ak a.aR ((bU g x).take p)) y -1:=aP V V
  rw[e1]
  rcases aE.aG with aF|⟨X,am,tail,z1,z2,z3,z4,z5⟩
  .rw[aF]at ay;simp at ay;omega
  .have a5:B.off=0:=by rw[z1];rfl
   have aa:B.D=X:=by rw[z1];rfl
   have ah:B.off+y.toNat*1=y.toNat:=V
   rw[ah,aa]
   have ax:y.toNat<((bD a.ak a.aR ((bU g x).take p)).map Ce.i).length:=bF
   refine⟨z3.fL (by simp only[be];omega),?_⟩
   intro m6
   have F:J L m6:=ad.ah V _ _
   have ao:∀j,j<U.size->j≠B.D->m6[j]? =U[j]? :=λj t G=>by rw[bd _ _ _ _ V];exact al j t G
   have o6:gY L m6 aA 1 B ((bD a.ak a.aR ((bU g x).take (p+1))).map Ce.i):=by
    rw[D];refine⟨by rw[dY,jU,<-dY (f:=Ce.i)];exact aE.len,Or.inr ⟨X,am,tail,z1,z2,?_,?_,z5⟩⟩
    .have:=cD.ah (m:=m5) (o:=y.toNat) (r:=[.i (aG (bD a.ak a.aR ((bU g x).take p)) y -1)]) z3;have e6:je ((bD a.ak a.aR ((bU g x).take p)).map Ce.i++tail) y.toNat [.i (aG (bD a.ak a.aR ((bU g x).take p)) y -1)]=(gT (bD a.ak a.aR ((bU g x).take p)) y (aG (bD a.ak a.aR ((bU g x).take p)) y -1)).map Ce.i++tail:=by
      simp only[je,gT,ue];rw[MA _ _ ax]
     rw[e6]at this;exact this
    .simp only[be,dY,jU]at z4⊢;exact z4
   have a0:=ka a.ak ((bU g x).take (p+1)) a.aR
   have aT:ap m6 B (bD a.ak a.aR ((bU g x).take (p+1))):=ap.gD o6 V
   have Y:aG (bD a.ak a.aR ((bU g x).take (p+1))) y=aG (bD a.ak a.aR ((bU g x).take p)) y -1:=by rw[D,UO q.1 H y q.1,an rfl]
   have ag:=aT.pH (i:=y) q.1 V
   rw[Y,ah,aa]at ag
   refine⟨J.tG ad F P,q.1,V,_,ag,λh8=>bV (λz=>?_) (w.trans F),λh8=>aV V _ ⟨F,ao,o6,λac T=>?_⟩⟩
   .simp at h8
    have ab:bD a.ak a.aR (bU g x)=bD a.ak (bD a.ak a.aR ((bU g x).take (p+1))) ((bU g x).drop (p+1)):=by rw[<-uZ,dk]
    have av:y<(bD a.ak a.aR (bU g x)).length:=by rw[ka];omega
    have I:=oH (l:=bD a.ak a.aR (bU g x)) q.1 av
    have aZ:=z.nn _ (aq I)
    rw[ab]at I
    let⟨q',M,ak⟩:=kZ _ _ _ _ I
    have aQ:=HM M
    rw[Y]at aQ
    rw[<-ab]at ak
    omega
   .rw[D]at T
    rcases pN T with T|T
    .simp at h8;omega
    .exact K ac T
 .have bj:(bU g x).take p=bU g x:=bX V
  rw[bj]at az K bc
  have aQ:=kl al
  generalize bH:bD a.ak a.aR (bU g x)=aR at*
  have bf:=aQ.len
  refine⟨λv=>J m5 v/\(lR x.op->aG aR x.dst<=0),?_,?_⟩
  .refine(rC _ _ ⟨V,V⟩).aH ad P λj m6 t ag F=>⟨j,rfl,λH=>⟨hd.1,V,_,(az.ext ag).pH hd.1 V,λA=>bV (λz=>?_) (w.trans F),λA=>⟨ag,λ_=>by simpa using A⟩⟩,λD=>⟨ag,λI=>absurd I (Go.Vc.fb t D)⟩⟩
   have:=z.dst (t.1 H);simp at A;omega
  .rintro m6 ⟨ag,aa⟩
   have bm:∀(ao:List Int)(jj:Nat)(y:Int),y∈fI g x jj ao->y∈ao:=by
    intro ao;induction ao with
    |nil=>intro jj y h;simp[fI]at h
    |cons D ao A=>
     intro jj y h;simp only[fI]at h;split at h
     .rcases List.mem_cons.1 h with rfl|h
      .exact bg
      .exact ai _ (A _ _ h)
     .exact ai _ (A _ _ h)
   generalize ax:(if x.op=9\/x.op=24 then fI g x 0 x.args else[])=LL at*
   have a9:∀y∈LL,0<=y/\y<a.ak.length:=λy s=>by
    rw[<-ax]at s;split at s
    .exact aK y (bm _ _ _ s)
    .simp at s
   refine dT (n:=LL.length) (bf▸aQ.gV) (λp v=>J m5 v/\∀y∈LL.take p,1000<=aG a.ak y->gA N.heap (aG a.ak y)) ⟨ag,aL⟩ ?_
   rintro k2 m7 I2 μ2 bz ⟨ah,am⟩ aT
   have Y:=ad.trans ah
   have A:=w.trans Y
   have H:=Q.ext A
   refine dit (λh8=>?_) λh8=>?_
   .let⟨y,s⟩:=cG LL k2
    have q:=a9 y (aq s)
    refine⟨V,V,y,by simpa using(aQ.ext ah).aG s,d,H.g3,q.1,V,_,H.ak.pH q.1 q.2,λF=>?_,λF=>aT V _ ⟨ah,bB s am λu=>by simp at F;omega⟩⟩
    simp at F
    refine(Ll (A.af R.ru) (cW.ext A R.heap) (C.F.pR q.1 q.2 C.MM).2).aH Y P λj m8 t ak I=>⟨j,rfl,λD=>bV (λz=>?_) (w.trans I),λD=>aT V _ ⟨ah.trans ak,bB s am λ_=>yb t D⟩⟩
    have M:=aq s
    rw[<-ax]at M
    split at M
    .rename_i e9;exact nb t D (z.cR e9 y M F)
    .simp at M
   .rw[bX V]at am
    have ab:(x.op=9\/x.op=24)->KH g N.heap a x:=λe9=>by rw[an e9]at ax;rw[<-ax]at am;exact am
    have bk:=az.ext ah
    have hV:=R.ext A
    have aW:1<=x.args.length->0<=aG x.args 0/\aG x.args 0<a.ak.length:=λX=>aK _ (fx V V)
    have ga:∀{v},J b v->1<=x.args.length->af v au.D (au.off+Int.toNat (0:Int)*1)=some (vi (aG x.args 0)):=λhx X=>(Z.ext hx).pH V V
    clear aV aT al kr kl bh a3 a2
    refine⟨λk=>?_,λe1=>?_⟩
    .simp only[bR,aI]at k
     refine(iY (Z.ext A) 98 #[] #[vp b.size 0] bn (λy=>1000<=aG a.ak y) (λy s v av=>?_)).aH Y (λj t=>P j (by simp at t;simp[t])) λj m8 t ak I=>⟨j,rfl,eU ?_ (w.trans I)⟩
     .simpa using MS (av.af (Y.af kP)) (H.ext av) (aK y s)
     .have aF:(!j)=true<->¬(j=true):=aL
      rw[aF,t]
      constructor
      .intro aX
       have u:∀y∈x.args,aG a.ak y<1000:=λy s=>by
        rcases eg (1000<=aG a.ak y)with X|X
        .exact absurd ⟨y,s,X⟩ aX
        .omega
       have M:x.op≠6/\x.op≠24/\x.op≠23/\x.op≠11/\x.op≠14/\x.op≠15/\x.op≠16/\x.op≠17/\x.op≠19/\x.op≠21:=by rcases k with k|k|k|k|k|k<;>rw[k]<;>decide
       exact⟨K,aa,λ_=>u,λq=>absurd q M.1,ab,λq=>q.elim (λh=>absurd h M.2.1) (λh=>absurd h M.2.2.1),λq=>absurd q M.2.2.1,λq=>absurd q M.2.2.2.1,λq=>absurd q M.2.2.2.2.1,λq=>absurd q M.2.2.2.2.2.1,λq=>q.elim (λh=>absurd h M.2.2.2.2.2.2.1) (λh=>absurd h M.2.2.2.2.2.2.2.1),λq=>absurd q M.2.2.2.2.2.2.2.2.1,λq=>absurd q M.2.2.2.2.2.2.2.2.2⟩
      .rintro z ⟨y,s,X⟩
       have:=z.nM V y s;omega
    simp only[br,aj]at e1
    refine⟨λk=>?_,λe6=>?_⟩
    .simp only[aI]at k
     have bx:=C.ly.2.2.2.2.1 k
     have iH:FD N.heap a x->lp g N a x aR:=λu=>by
      refine⟨K,aa,?_,?_,ab,?_,?_,?_,?_,?_,?_,?_,?_⟩<;>intro q<;>first|(exfalso;omega)|exact u
     refine⟨λF=>?_,λF=>iR (iH λG=>absurd (by simpa using F) G) A⟩
     simp at F
     have aZ:cO (x.bZ -1)=x.bZ -1:=aP V V
     rw[aZ]
     have M:0<=x.bZ -1/\x.bZ -1<a.ba.length:=V
     refine⟨h,H.g5,V,V,_,H.ba.pH M.1 M.2,λD=>?_,λD=>iR (iH λ_ G=>absurd (by simpa using D) G) A⟩
     simp at D
     obtain⟨T,dd,aF,_⟩:=C.Lp _ (fx M.1 M.2) D
     have bC:=aw aF
     have a6:ix (aG a.ba (x.bZ -1))=(aG a.ba (x.bZ -1) -1000).toNat:=rfl
     have a0:cO (aG a.ba (x.bZ -1) -1000)=aG a.ba (x.bZ -1) -1000:=aP V V
     have bv:=R.heap.len
     let⟨f9,a5,k0,k1,a7⟩:=(cW.ext A R.heap).aG aF
     have bs:=a5.len
     have aX:aM N.heap (aG a.ba (x.bZ -1))=dd:=by simp[aM,aF]
     refine⟨u,hV.ru,h,H.g5,V,V,_,H.ba.pH M.1 M.2,?_⟩
     rw[a0,<-a6]
     refine⟨V,V,f9,a7,eU ?_ A⟩
     simp only[aI]
     refine⟨λav=>iH λ_ _=>by rw[aX];omega,λz=>?_⟩
     have:=z.jg k F D
     rw[aX]at this;omega
    simp only[aj]at e6
    refine⟨λk=>?_,λa6=>?_⟩
    .simp only[bR,aI]at k
     refine(yi bk).aH Y P λj m8 t ak I=>⟨j,rfl,λF=>bV (λz=>nb t F (z.zero k).1) (w.trans I),λF=>?_⟩
     have F8:=Q.ext (w.trans I)
     refine⟨h,F8.g5,(yi F8.ba).aH I P λb2 m9 a0 bs aZ=>⟨b2,rfl,λD=>bV (λz=>nb a0 D (z.zero k).2) (w.trans aZ),λD=>?_⟩⟩
     have M:=w.trans aZ
     have F9:=Q.ext M
     have iH:(x.op=23->1<N.ao.length\/aG a.ak (aG x.args 0)<1000)->lp g N a x aR:=λu=>by
      refine⟨K,aa,?_,?_,ab,?_,?_,?_,?_,?_,?_,?_,?_⟩<;>intro q<;>first|exact u q|(exfalso;omega)|exact⟨(yb t F),(yb a0 D)⟩
     have bv:=R.ao.len
     refine⟨λav=>iR (iH λq=>by simp at av;omega) M,λav=>⟨fr,M.af R.OM,λaF=>iR (iH λ_=>Or.inl (by simp at aF;omega)) M,λaF=>?_⟩⟩
     simp at av aF
     have a5:x.op=23:=V
     have X:=C.ly.2.1 V
     have S:=aW V
     refine⟨d,F9.g3,V,V,_,ga M V,S.1,V,_,F9.ak.pH S.1 S.2,eU ?_ M⟩
     simp
     refine⟨λa7=>iH λ_=>Or.inr a7,λz=>?_⟩
     rcases z.ret a5 with aX|aX
     .omega
     .exact aX
    simp only[br,aj]at a6
    refine⟨λk=>?_,λz=>?_⟩
    .simp only[aI]at k
     refine(HW hV (A.af bb) C H (Z.ext A) k a1).aH Y P λj m8 t ak I=>⟨j,rfl,eU (t.trans ?_) (w.trans I)⟩
     refine⟨λu=>?_,λh=>h.apply k⟩
     refine⟨K,aa,?_,?_,ab,?_,?_,?_,?_,?_,?_,?_,?_⟩<;>intro q<;>first|(exfalso;omega)|exact u
    simp only[aj]at z
    refine⟨λk=>?_,λF=>?_⟩
    .simp only[aI]at k
     have X:=C.ly.2.1 V
     have S:=aW V
     refine⟨d,H.g3,V,V,_,ga A V,S.1,V,_,H.ak.pH S.1 S.2,eU ?_ A⟩
     simp only[oD,ar]
     refine⟨λu=>?_,λh=>h.drop k⟩
     refine⟨K,aa,?_,?_,ab,?_,?_,?_,?_,?_,?_,?_,?_⟩<;>intro q<;>first|(exfalso;omega)|exact u
    simp only[aj]at F
    refine⟨λk=>?_,λD=>?_⟩
    .simp only[bR,aI]at k
     refine(Ei hV C H (Z.ext A) V a1).aH Y P λj m8 t ak I=>⟨j,rfl,eU (t.trans ?_) (w.trans I)⟩
     refine⟨λu=>?_,λh=>⟨h.Xa,h.load,h.Fs,h.NQ⟩⟩
     refine⟨K,aa,?_,?_,ab,?_,?_,?_,u.1,?_,u.2.2.2,u.2.1,u.2.2.1⟩<;>intro q<;>exfalso<;>omega
    .simp only[br,aj]at D
     refine iR ?_ A
     refine⟨K,aa,?_,?_,ab,?_,?_,?_,?_,?_,?_,?_,?_⟩<;>intro q<;>exfalso<;>omega
end
section
variable{N c:Nat}{b:Nat->Nat}{a:E}{h:List bN}
def mW(w:Int)(a:E):HA cq 109 [vi w] a (vi (gK w)):=by
 apply we;unfold gK;exact⟨λh=>by simp at h;rw[an h];exact⟨rfl,J.az _⟩,λh=>by simp at h;rw[ae V];exact⟨rfl,J.az _⟩⟩
def uI{d:O}(s:dL N b a d h)(A:∀e,a.size<=e->b e=0)(kb:cD a c eC [.s d])(C:b c=5)(H:h.length<=2000000000):
 aN cq 176 [vp c 0] a λ_ g=>dL N b g (d.cut 0 (jq h h.length) 3) (nv h)/\cD g c eC [.s (d.cut 0 (jq h h.length) 3)]/\HC b a b g:=by
 apply Af (c,0)
 have G:=s.len
 have t:=s.cells V
 have E:=t.cap
 have j:af a c 0=some (O.v d):=kb.cp 0
 refine⟨d,j,λl g=>g=a/\∃n:Nat,l=n/\n<=h.length/\jq h n=jq h h.length,λl _=>l.toNat,⟨rfl,h.length,V,ad _,rfl⟩,?_⟩
 rintro l e ⟨rfl,n,rfl,B,u⟩
 have x:Int.toNat (0:Int)=0:=rfl
 have en:Int.toNat (n:Int)=n:=V
 have iH:jq h n=n->dL N b (ah e c 0 [.s (d.cut 0 n 3)]) (d.cut 0 (jq h h.length) 3) (nv h)/\cD (ah e c 0 [.s (d.cut 0 n 3)]) c eC [.s (d.cut 0 (jq h h.length) 3)]/\HC b e b (ah e c 0 [.s (d.cut 0 n 3)]):=λw=>by
  have f:dm (λk=>k=5) b e b (ah e c 0 [.s (d.cut 0 n 3)]):=dm.ah A C _ _;have i:jq h h.length=n:=by rw[<-u,w]
  rw[i];refine⟨?_,cD.ah (m:=e) (o:=0) (r:=[.s (d.cut 0 n 3)]) kb,f.mono λk z=>Or.inr (Or.inl z)⟩;have:=(s.eH f bn bn).cut B;unfold nv;rw[i];exact this
 refine⟨λp=>?_,λp=>?_⟩
 .simp only[kH,ar]at p
  obtain⟨k,rfl⟩:∃k,n=k+1:=⟨n -1,V⟩
  have i:cO (((k+1:Nat):Int) -1)=(k:Int):=by rw[aP V V];omega
  let⟨v,f⟩:=cG h k
  obtain⟨D,F,y,_⟩:=t.aG f
  refine⟨d,j,?_⟩
  rw[i]
  refine⟨V,V,v.aQ,by simpa using y,λq=>⟨⟨rfl,k,rfl,V,?_⟩,by show(k:Int).toNat<((k+1:Nat):Int).toNat;omega⟩,λq=>⟨d,j,V,V,V,kb.fL aL,?_⟩⟩
  .rw[<-u,Qr f (by simpa using q)]
  .rw[x,en];exact iH (Mw f (by simpa using q))
 .simp only[kH,bE]at p
  have q:n=0:=V
  subst q
  exact⟨d,j,V,V,V,kb.fL aL,iH rfl⟩
def Gc{e:O}(hh:dL N b a e h)(hn:∀g,a.size<=g->b g=0)(kb:cD a c eC [.s e])(hr:b c=5){v:Int}{W:Nat->Int}(hI:fO h (λg=>W g+eB [v] g))(he:∀g,0<=W g)(a5:h.length<=2000000000):
 aN cq 107 [vp c 0,vi v] a λ_ q=>∃u av,dL N u q av (nv (ic h [v]))/\cD q c eC [.s av]/\HC b a u q:=by
 apply Ae (c,0)
 intro r
 have X:J a r:=(J.az a).aK _
 have s1:r.size=a.size+1:=by simp[r]
 have o1:gY a r aA 1 (.mk a.size 0 1 1) ([v].map Ce.i):=gY.new (J.az a) aA 1 _ 1 aL
 have c1:HC b a (oA b a.size 6) r:=dm.oA X hn (ad _) V 6
 have a1:iJ (oA b a.size 6) r aA 1 6 (.mk a.size 0 1 1) ([v].map Ce.i):=iJ.gD o1 λ_=>fJ _ _ _
 have aK:dL N (oA b a.size 6) r e h:=hh.eH (dm.oA (p:=λ_=>False) X hn (ad _) V 6) id id
 have aT:=kb.ext X
 have aO:oA b a.size 6 c=5:=by rw[eV (oh kb.lt)];exact hr
 clear_value r
 have aX:=ON λaE d=>(hI.cell aE d).fl
 have aY:=hh.len
 refine Pm (γ:=List bN×List Int) (λi G q=>∃u,dL N u q e i.1/\iJ u q aA 1 6 G (i.2.reverse.map Ce.i)/\HC b a u q/\fO i.1 (λg=>W g+eB i.2 g)/\ic i.1 i.2=ic h [v]/\i.1.length=h.length/\i.2.length+Cr i.1<=1+Cr h/\cD q c eC [.s e]/\u c=5) (λi=>Cq i.1+i.2.length) (h,[v])
  ⟨_,aK,a1,c1,hI,rfl,rfl,aL,aT,aO⟩ ?_
 rintro⟨d,st⟩ G m2 aU μ ⟨m,B,a2,i,t,y,K,ak,P,z⟩ ae
 simp only[]at B a2 t y K ak
 have az:G.len=st.length:=by have:=a2.len;simp at this;omega
 refine⟨λY=>?_,λY=>?_⟩
 .simp only[kH,ar]at Y
  cases st with
  |nil=>simp at az;omega
  |cons x s=>
   simp only[QB]at a2
   let⟨p1,p2,p3⟩:=a2.Vj
   simp only[aZ,mQ]at az p1 p2 p3 ak
   have e1:cO ((G.len:Int) -1)=(s.length:Int):=by rw[aP V V];omega
   have aV:=a2.le
   have e2:Int.toNat (0:Int)=0:=rfl
   have e3:Int.toNat (s.length:Int)=s.length:=V
   have aB:1000<=x->gA d x:=λM=>t.PM he M
   have aS:x<=9223372036854775807:=by
    rcases eg (1000<=x)with k|k
    .have:=aw (bS (aB k)).1;unfold ix at this;omega
    .omega
   refine⟨e,P.cp 0,?_⟩
   rw[e1,e2,e3]
   refine⟨V,V,x,p2,(iu (B.cells V) aS).mono ?_⟩
   rintro _ Q ⟨aD,g,rfl,ah,aH,n⟩
   refine⟨aD,g,rfl,V,V,V,λaJ=>?_,λai=>?_⟩
   .have M:=nb ah aJ
    have H:HC m m2 m Q:=dm.eG _ n i.new
    refine ae (d,s) _ _ ⟨m,B.eH (dm.eG (λ_=>False) n i.new) id id,p3.eH (dm.eG (λ_=>False) n i.new) id,i.trans H,t.RE ?_,?_,K,by simp only[];omega,P.ext n,z⟩ aL
    .rcases eg (1000<=x)with k|k
     .exact absurd (aB k) M
     .omega
    .rw[<-qC (w:=x) M];exact y
   .have E:=yb ah ai
    have aG:=aH (by simpa using ai)
    subst aG
    let⟨j,ax⟩:=bS E
    have ao:=aw j
    have a0:=(t.cell _ (aq j)).hi
    have aF:Int.toNat ((ix x:Nat):Int)=ix x:=V
    have H:HC m m2 m Q:=dm.eG _ n i.new
    have C:dL N m Q e d:=B.eH (dm.eG (λ_=>False) n i.new) id id
    have a3:=p3.eH (dm.eG (λ_=>False) n i.new) id
    have F:=P.ext n
    obtain⟨f0,g0,_,_,_,_⟩:=C.cp j
    refine⟨e,F.cp 0,?_⟩
    rw[aF]
    refine⟨V,V,_,g0,V,V,C.wr (o:=0) ao bn,?_⟩
    have e5:cO ((aM d x).aQ -1)=(aM d x).aQ -1:=aP V V
    rw[e5]
    intro m4
    let⟨ab,T⟩:=C.rG H.new j ((aM d x).aQ -1)
    have a4:=a3.eH T bn
    have A:cD m4 c eC [.s e]:=F.congr (T.eA _ F.lt (by rw[z];decide))
    have S:HC b a m m4:=(i.trans H).trans (T.mono λaC D=>Or.inl D)
    have Z:=kA (d:=jd) j
    simp only[an ax,jd]at Z
    simp at Z
    have aR:(d.set (ix x) {aM d x with aQ:=(aM d x).aQ -1})[ix x]? =some {aM d x with aQ:=(aM d x).aQ -1}:=eJ j
    obtain⟨f1,k0,_,k2,kf,kr⟩:=ab.cp aR
    refine⟨e,A.cp 0,V,V,_,k0,λk=>?_,λk=>?_⟩
    .simp only[aI]at k
     have au:(aM d x).aQ=1:=V
     have aW:=(t.cell _ (aq j)).fl
     have aa:=kf.len
     simp only[]at aa kf kr
     have I:=zZ jd j
     simp only[jd,eW]at I
     refine⟨e,A.cp 0,V,V,f1,k2,iJ.append (zs:=[.i 0]) (c:=(aM d x).aF.map Ce.i) a4 S.new (by simp[aa]) kf.Im ?_ λaf a6 m5 q1 R=>?_⟩
     .have:(G.cut 0 s.length 1).len=s.length:=by have:=a4.len;simp at this;omega
      rw[this,aa];omega
     have al:=ab.eH R bn bn
     have ag:HC b a af m5:=S.trans (R.mono λaC D=>Or.inr (Or.inr D))
     have ac:cD m5 c eC [.s e]:=A.congr (R.eA _ A.lt (by rw[z];decide))
     have ay:af c=5:=by rw[R.gW _ A.lt];exact z
     have ap:ix x<(d.set (ix x) {aM d x with aQ:=(aM d x).aQ -1}).length:=by simpa using ao
     refine⟨e,ac.cp 0,V,V,al.wr (o:=0) ap bn,?_⟩
     intro m7
     let⟨am,U⟩:=al.setCell ag.new ap 0 0 (f:=.nil) (l:=[]) ⟨rfl,aL,aL,aL⟩ (λL=>absurd rfl L)
     rw[Xu]at am
     refine ae (d.set (ix x) jd,(aM d x).aF.reverse++s) _ _ ⟨af,am,?_,ag.trans (U.mono λaC D=>Or.inl D),t.RF he E au,?_,by simpa using K,?_,ac.congr (U.eA _ ac.lt (by rw[ay];decide)),ay⟩ ?_
     .have:=q1.eH U bn
      simpa using this
     .rw[<-td E au];exact y
     .simp only[be,mQ]
      have D:Cr (d.set (ix x) jd)+(aM d x).aF.length=Cr d:=by simpa[jd]using I
      omega
     .simp only[be,mQ,aZ]
      have D:Cq (d.set (ix x) jd)+((aM d x).aQ.toNat+(aM d x).aF.length)=Cq d:=by simpa[jd]using Z
      omega
    .simp only[aj]at k
     have L:(aM d x).aQ≠1:=V
     have D:=kA (d:={aM d x with aQ:=(aM d x).aQ -1}) j
     simp only[an ax]at D
     rw[an V]at D
     have I:=zZ {aM d x with aQ:=(aM d x).aQ -1} j
     refine ae (fm d x,s) _ _ ⟨m,ab,a4,S,t.PN he E L,?_,by simpa[fm]using K,?_,A,z⟩ ?_
     .rw[<-qB E L];exact y
     .simp only[fm];simp only[]at I;omega
     .simp only[fm,aZ];omega
 .simp only[kH,bE]at Y
  have j:st=[]:=List.length_eq_zero_iff.1 V
  subst j
  rw[tc]at y
  subst y
  refine(uI B i.new P z V).mono ?_
  rintro _ Q ⟨C,F,g⟩
  exact⟨m,_,C,F,i.trans g⟩
def PV{i:O}(f:cW a i h):aN cq 216 [O.v i,.func (.func 217) #[] #[]] a λB j=>∃r:Int,B=vi r/\J a j/\(if dF h=h.length then r= -1 else r=dF h):=by
 apply lX i (.func 217,#[],#[]);have y:=f.len;refine dT (n:=h.length) (y▸f.gV) (λk j=>J a j/\∀b∈h.take k,b.aQ≠0) ⟨J.az _,aL⟩ ?_;rintro k o I μ x ⟨e,g⟩ A
 refine dit (λs=>?_) λs=>?_
 .let⟨b,d⟩:=cG h k;let⟨l,C,q,g1,g2⟩:=(cW.ext e f).aG d;refine⟨V,V,b.aQ,by simpa using q,_,by simpa using g1,l,by simpa using g2,217,rfl,bn,?_⟩;have v:dt cq 217 [.agg #[vi b.aQ,vi b.kj,O.v l]] o (b.aQ=0):=by
   apply vX;simp -zeta only[aD,aC];intro z;exact eU aL ((J.az o).aK _)
  refine aN.mono v ?_;rintro _ z ⟨p,rfl,c,m⟩;refine⟨p,rfl,λu=>⟨_,rfl,e.trans m,?_⟩,λt=>A V _ ⟨e.trans m,bB d g (fb c t)⟩⟩;have w:=HQ h k b g d (c.1 u);have:=aw d;rw[ae V,w]
 .refine⟨_,rfl,e,?_⟩;have:=zY h k x g;have:=qE h;rw[an V]
def Eg{e:O}(l:dL N b a e h)(B:∀s,a.size<=s->b s=0)(kb:cD a c eC [.s e])(P:b c=5)(G:Int){Y:O}{E:List Int}(hf:ap a Y E)(aq:h.length<=1000000000)(hl:E.length<=1000000000)(hN:N<=a.size):
 aN cq 175 [vp c 0,vi G,O.v Y] a λak S=>∃i aa,ak=vi (1000+dF h)/\dL N i S aa (jg h (dF h) ⟨1,G,E⟩)/\cD S c eC [.s aa]/\HC b a i S:=by
 apply yM (c,0)
 simp -zeta only[aD,aC]
 refine(eN hf hl).then hl λW y o1 i1 Z=>⟨W,rfl,?_⟩
 intro m2 F
 have z:J y F:=((J.az y).aK _).ah (ad _) _ _
 have s3:F.size=y.size+1:=by simp[F,m2,av]
 have Q:=Z.trans z
 clear_value F
 have ab:E≠[]->b W.D=0:=λah=>by
  rcases o1.D with j|j
  .subst j;have:=i1.len;simp at this;exact absurd (List.length_eq_zero_iff.1 this.symm) ah
  .exact B _ j
 have L:b y.size=0:=B _ Z.size
 have am:=l.len
 have al:=qE h
 refine⟨e,Q.af (kb.cp 0),(PV (cW.ext Q (l.cells V))).mono ?_⟩
 rintro _ g ⟨aj,rfl,q,C⟩
 have w:=Q.trans q
 have t:HC b a b g:=dm.eG _ w B
 have M:dL N b g e h:=l.eH (dm.eG (λ_=>False) w B) id id
 have n:=kb.ext w
 have i4:=i1.ext (z.trans q)
 have ao:=q.size
 refine⟨q.dq bF,aj,rfl,λj=>?_,λj=>?_⟩
 .simp at j
  have A:dF h=h.length:=by
   rcases eg (dF h=h.length)with u|u
   .exact u
   .rw[ae u]at C;omega
  refine⟨e,n.cp 0,e,n.cp 0,?_⟩
  intro p
  have k:J g p:=(J.az g).aK _
  have s5:p.size=g.size+1:=by simp[p]
  have jw:fR p g.size 0 [.i 1,.i G,.s W]:=(cD.push g _ _).iD
  have X:HC b a b p:=t.trans (dm.eG _ k t.new)
  clear_value p
  refine⟨k.da (n.cp 0),dL.push (M.eH (dm.eG (λ_=>False) k t.new) id id) X.new (x:=.mk g.size 0 1 1) rfl jw (i4.ext k) (Rr.of l (λK=>(w.trans k).same _ (l.D K).2) (λ_=>o1.ext ((z.trans q).trans k)) ab hN) V λi af T U d=>?_⟩
  have R:=n.ext k
  have ac:cD T c eC [.s e]:=R.congr (d.eA _ R.lt (by rw[P];decide))
  have ai:i c=5:=by rw[d.gW _ R.lt];exact P
  have ag:i y.size=0:=by rw[d.gW _ V];exact L
  refine⟨λs f=>?_,ac.fL aL,?_⟩
  .simp at f;subst f
   exact d.eA _ V (by rw[L];decide)
  intro m7
  have H:dm (λD=>D=5) i T i m7:=dm.ah d.new ai _ _
  have I:cO (1000+(e.len:Int))=1000+(dF h:Int):=by rw[aP V V];omega
  rw[I]
  refine⟨λs f=>?_,i,af,rfl,?_,cD.ah (m:=T) (o:=0) (r:=[.s af]) ac,(X.trans (d.mono λD v=>Or.inl v)).trans (H.mono λD v=>Or.inr (Or.inl v))⟩
  .simp at f;subst f
   exact H.eA _ (oh d.size) (by rw[ag];decide)
  .rw[jg,an A];exact U.eH H bn bn
 .simp at j
  have A:dF h≠h.length:=λu=>by rw[an u]at C;omega
  rw[ae A]at C
  subst C
  have k:dF h<h.length:=V
  have H:Int.toNat ((dF h:Nat):Int)=dF h:=V
  have I:cO (1000+(dF h:Int))=1000+(dF h:Int):=aP V V
  refine⟨e,n.cp 0,?_⟩
  rw[H,I]
  refine⟨V,V,M.wr (o:=0) k bn,?_⟩
  intro p
  let⟨U,d⟩:=M.setCell t.new k 1 G i4 (Rr.of l (λK=>w.same _ (l.D K).2) (λ_=>o1.ext (z.trans q)) ab hN)
  refine⟨λs f=>?_,b,e,rfl,?_,n.congr (d.eA _ n.lt (by rw[P];decide)),t.trans (d.mono λD v=>Or.inl v)⟩
  .simp at f;subst f
   exact d.eA _ V (by rw[L];decide)
  .rw[jg,ae A];exact U
end
section
variable{l:List Int}
def OQ{i a b:Int}(l:gP a)(m:gP b)(o:E):HA cq 174 [vi i,vi a,vi b] o (vi (OY i a b)):=by
 unfold gP at l m;have s: -2000000<=a*b/\a*b<=2000000:=by
  have c:(a*b).natAbs<=999*999:=by rw[Int.natAbs_mul];exact MC V V
  omega
 have k:∀n:Int,(if(999:Int)<(if(-999:Int)>n then(-999:Int)else n)then(999:Int)else(if(-999:Int)>n then(-999:Int)else n))=FK n:=λn=>by
  unfold FK;repeat' split
  all_goals omega
 have p:cO (a+b)=a+b:=aP V V;have q:cO (a -b)=a -b:=aP V V;have r:cO (a*b)=a*b:=aP V V;apply JR;rw[p,q,r,k,k,k];unfold OY;refine⟨λh=>by simp at h;omega,λ_=>⟨λh=>by simp at h;omega,λ_=>⟨λh=>by simp at h;omega,λ_=>⟨λh=>by simp at h;omega,λ_=>⟨λc=>?_,λc=>⟨λd=>?_,λd=>⟨λe=>?_,λe=>⟨λf=>⟨λj=>?_,λj=>?_⟩,λf=>?_⟩⟩⟩⟩⟩⟩⟩⟩
 .simp at c;rw[an c];exact⟨rfl,J.az _⟩
 .simp at c d;rw[ae c,an d];exact⟨rfl,J.az _⟩
 .simp at c d e;rw[ae c,ae d,an e];exact⟨rfl,J.az _⟩
 .simp at c d e f j;have g:i=4/\a<b:=⟨f,j⟩;rw[ae c,ae d,ae e,an g];exact⟨rfl,J.az _⟩
 .simp at c d e f j;have g:¬(i=4/\a<b):=V;rw[ae c,ae d,ae e,ae g];exact⟨rfl,J.az _⟩
 .simp at c d e f;have g:¬(i=4/\a<b):=V;rw[ae c,ae d,ae e,ae g];exact⟨rfl,J.az _⟩
def vn{a:E}{fb e:Nat}{f:aY}{j:O}(w:af a fb (e+3)=some (O.v j))(p:ap a j f.ak){s:O}(q:ap a s l)(A:∀y∈l,0<=y/\y<f.ak.length)(L:l.length<=100000000):
 oF 106 [vp fb e,O.v s] a (cL f l):=by
 apply xg (fb,e)
 have K:=q.len
 have H:=p.len
 have t:Int.toNat (s.len:Int)=l.length:=V
 rw[t]
 refine⟨V,dw _,V,V,?_⟩
 intro d
 have z:J a d:=(J.az a).aK _
 have C:cD d a.size aA ((dj l.length).map Ce.i):=by rw[<-ub];exact cD.push a _ _
 have M:d.size=a.size+1:=by simp[d]
 clear_value d
 simp only[O.jD,O.mZ,O.gH,bT]
 refine dT (n:=l.length) V (λk b=>J a b/\cD b a.size aA ((cL f (l.take k)++dj (l.length -k)).map Ce.i)) ⟨z,by simpa[cL]using C⟩ ?_
 rintro k D I μ G ⟨b,c⟩ F
 refine dit (λx=>?_) λx=>?_
 .let⟨y,h⟩:=cG l k
  have i:=A y (aq h)
  have v:Int.toNat (k:Int)*1=k:=V
  refine⟨V,V,y,by simpa using b.af (q.aG h),j,b.af w,i.1,V,_,b.af (p.pH i.1 i.2),V,V,?_⟩
  rw[v]
  have g:(cL f (l.take k)).length=k:=by simp[cL];omega
  refine⟨c.fL (by simp[g,ku];omega),?_⟩
  refine F V _ ⟨b.ah (ad _) _ _,?_⟩
  have:=cD.ah (m:=D) (o:=k) (r:=[.i (aG f.ak y)]) c
  have u:je ((cL f (l.take k)++dj (l.length -k)).map Ce.i) k [.i (aG f.ak y)]=(cL f (l.take (k+1))++dj (l.length -(k+1))).map Ce.i:=by
   have B:dj (l.length -k)=0::dj (l.length -(k+1)):=by
    have:l.length -k=(l.length -(k+1))+1:=V;rw[this];rfl
   rw[B,fu,lF _ _ _ _ (by simp[g])];simp only[dY,g,QD,cK,je,iB];rw[aU h];simp[cL]
  rw[u]at this;exact this
 .have g:k=l.length:=V
  subst g
  rw[fw,QD]at c
  simp only[dj,Nr,dX]at c
  refine⟨_,rfl,⟨by simp[cL],Or.inr ⟨a.size,l.length,[],rfl,ad _,by rw[dX];exact c,by simp[cL],ad _⟩⟩,b⟩
abbrev IB(d p:O)(c:Int)(s:St)(aS b a:O):List Ce:=[.s d,.s p,.i c,.i s.cE,.i s.value,.i s.bu,.i s.dU,.s aS,.s b,.s a]
def DW(g:E)(i:Nat->Nat)(m:E)(h:Nat)(f p:O)(e:Int)(s:St)(c:E):Prop:=
 ∃d aS b a,vf g d c h bK (IB f p e s aS b a) aS b a s.aS s.heap s.ao/\To i m d c
def DW.from{b:E}{g h:Nat->Nat}{m e a:E}{f:Nat}{d p:O}{c:Int}{s:St}(j:DW b h e f d p c s a)(o:To g m h e):DW b g m f d p c s a:=
 let⟨q,aS,n,i,k,l⟩:=j
 ⟨q,aS,n,i,k,o.trans l⟩
section
variable{p:E}{c s:Nat->Nat}{m d:E}{q e:Nat}{g:List Ce}{aS j a:O}{n:List Int}{k:List bN}{b:List aY}{f:aY}{r o h:O}{i:List (List Ce)}
def ST.ZM(S:ST p c m q e g aS j a n k b f r o h i)(l:dm (λ_=>False) c m s d):ST p s d q e g aS j a n k b f r o h i/\To c m s d:=by
 let⟨L,t⟩:=S.cQ.gE (l.mono λ_=>False.elim) (S.cQ.heap.eH l id id);exact⟨⟨L,S.fW.eH l λ_ _=>id⟩,t⟩
def ST.fp(S:ST p c m q e g aS j a n k b f r o h i)(d:f.ak.length<=1000000/\f.aR.length<=1000000/\f.ba.length<=1000000):FP m a.D (a.off+b.length*6) f r o h:=by
 obtain⟨_,_,_,l,s,t⟩:=S.fW.iD;exact⟨l,s,t,S.Au d.1,S.JC d.2.1,S.Q6 d.2.2⟩
def rB(S:ST p c m q e g aS j a n k b f r o h i){s:Int}(l:0<=s)(u:s<f.ak.length)(v:s<f.aR.length)(w aR:Int):
 aN cq 103 [vp a.D (a.off+b.length*6),vi s,vi w,vi aR] m λ_ d=>ST p c d q e g aS j a n k b (f.put s w aR) r o h i/\To c m c d:=by
 apply Aa (a.D,a.off+b.length*6)
 obtain⟨_,_,_,y,z,A⟩:=S.fW.iD
 have C:r.len=f.ak.length:=by have:=S.fW.ak.len;simp at this;omega
 have B:o.len=f.aR.length:=by have:=S.fW.aR.len;simp at this;omega
 let⟨t,t1⟩:=S.Az l u w
 let⟨x,t2⟩:=t.pV l (by simpa using v) aR
 exact⟨r,y,o,z,l,V,S.fW.ak.Of l u,l,V,t.fW.aR.Of l v,x,t1.trans t2⟩
end
section
variable{n:E}{g:Nat->Nat}{a:E}{k:Nat}{d p aS b e:O}{c:Int}{s:St}{j:List aY}{f:aY}{u t h:O}{q:List (List Ce)}
def ST.OP{d:Nat}{c:List Ce}{l:List Int}{i:List bN}(S:ST n g a k d c aS b e l i j f u t h q):
 ST n (oA g a.size 5) (ah (a.push (.cells (bt [.s O.nil]) eC)) a.size 0 [.s b]) k d c aS b e l i j f u t h q/\To g a (oA g a.size 5) (ah (a.push (.cells (bt [.s O.nil]) eC)) a.size 0 [.s b])/\
  cD (ah (a.push (.cells (bt [.s O.nil]) eC)) a.size 0 [.s b]) a.size eC [.s b]:=by
 have v:J a (ah (a.push (.cells (bt [.s O.nil]) eC)) a.size 0 [.s b]):=((J.az a).aK _).ah (ad _) _ _
 have s:dm (λ_=>False) g a (oA g a.size 5) (ah (a.push (.cells (bt [.s O.nil]) eC)) a.size 0 [.s b]):=dm.oA v S.cQ.new (ad _) (by rw[av];simp) 5
 let⟨p,t1⟩:=S.ZM s
 exact⟨p,t1,cD.ah (m:=a.push (.cells (bt [.s O.nil]) eC)) (o:=0) (r:=[.s b]) (cD.push a _ _)⟩
def DE(S:ST n g a k bK (IB d p c s aS b e) aS b e s.aS s.heap j f u t h q)(r:Int){z:O}(E:ap a z l)(M:l.length<=1000000)(D:s.heap.length<=1000000000):
 aN cq 105 [vp k 0,vi r,O.v z] a λL x=>L=vi (1000+dF s.heap)/\∃y w,ST n y x k bK (IB d p c s aS w e) aS w e s.aS (jg s.heap (dF s.heap) ⟨1,r,l⟩) j f u t h q/\To g a y x:=by
 apply vj (k,0)
 simp -zeta only[aD,aC]
 refine⟨b,S.cQ.box.cp 8,?_⟩
 intro N H
 let⟨m,t2,kb⟩:=S.OP
 have F:J a H:=((J.az a).aK _).ah (ad _) _ _
 refine(Eg m.cQ.heap m.cQ.new kb (fJ _ _ _) r (E.ext F) D V m.cQ.cv.size).mono ?_
 rintro _ P ⟨I,o,rfl,C,G,B⟩
 let⟨v,t3⟩:=m.gE B C
 refine⟨_,rfl,o,G.cp 0,v.cQ.mw (i:=8) aL,?_⟩
 intro Q
 let⟨A,K⟩:=v.jy 8 [.s o]
 exact⟨rfl,I,o,A,(t2.trans t3).trans K⟩
def Gb(S:ST n g a k bK (IB d p c s aS b e) aS b e s.aS s.heap j f u t h q){x:Instr}{W aw:O}(ha:ap n W x.args)(ah:∀y∈x.args,0<=y/\y<f.ak.length)(aB:x.args.length<=4)
 (aH:f.ak.length=f.aR.length/\f.ba.length=f.aR.length/\f.aR.length<=2000)(aF:0<=x.bZ/\x.bZ<=f.ba.length)(ak:s.heap.length<=1000000000)(am:∀w∈f.ba,w≠0->1000<=w/\ix w<s.heap.length):
 aN cq 104 [vp k 0,vp e.D (e.off+j.length*6),xv x W aw] a λaz m'=>∃(H:Nat->Nat)(E:O)(m:Nat)(i:aY),az=vi (1000+m)/\ST n H m' k bK (IB d p c s aS E e) aS E e s.aS (jg s.heap m ⟨1,x.bQ,cL f x.args⟩) j i u t h q/\To g a H m'/\
  i.ak=f.ak/\i.aR=f.aR/\i.pc=f.pc/\(∀y,nB s j {f with pc:=y} x x.bQ={s with heap:=jg s.heap m ⟨1,x.bQ,cL f x.args⟩,ao:=j++[aY.put {i with pc:=y+1} x.dst (1000+m) 1]}):=by
 apply rY (k,0) (e.D,e.off+j.length*6)
 simp -zeta only[aD,aC]
 intro G
 have au:J a G:=(J.az a).aK _
 have s1:G.size=a.size+1:=by simp[G]
 let⟨z,t1⟩:=S.ext au
 have T:zE g G [a.size]:=λaA hb=>by simp at hb;subst hb;exact⟨V,S.cQ.new _ (ad _)⟩
 clear_value G
 have U:=z.fp ⟨V,V,V⟩
 have aE:h.len=f.ba.length:=by have:=S.fW.ba.len;simp at this;omega
 refine(vn U.g3 U.ak (ha.ext z.cQ.cv) ah V).mono ?_
 rintro _ P ⟨C,rfl,R,Z⟩
 let⟨r,t2⟩:=z.ext Z
 have K:=T.to t2
 have aJ:(cL f x.args).length=x.args.length:=by simp[cL]
 have F:ap P C (cL f x.args):=ap.gD R V
 have af:=t1.trans t2
 have none:¬(x.bZ≠0/\aG f.ba (x.bZ -1)≠0)->aN cq 105 [vp k 0,vi x.bQ,O.v C] P λax N=>eF [a.size] P N/\∃ac:Int,ax=vi ac/\∃(H:Nat->Nat)(E:O)(m:Nat)(i:aY),vi ac=vi (1000+m)/\ST n H N k bK (IB d p c s aS E e) aS E e s.aS (jg s.heap m ⟨1,x.bQ,cL f x.args⟩) j i u t h q/\To g a H N/\
  i.ak=f.ak/\i.aR=f.aR/\i.pc=f.pc/\(∀y,nB s j {f with pc:=y} x x.bQ={s with heap:=jg s.heap m ⟨1,x.bQ,cL f x.args⟩,ao:=j++[aY.put {i with pc:=y+1} x.dst (1000+m) 1]}):=λaq=>by
  refine(DE r x.bQ F V ak).mono ?_
  rintro _ Q ⟨rfl,ay,ar,v,t3⟩
  exact⟨t3.dJ K,_,rfl,ay,ar,dF s.heap,f,rfl,v,af.trans t3,rfl,rfl,rfl,λy=>by rw[nB,ae aq];rfl⟩
 refine⟨t2.dJ T,C,rfl,λD=>none λL=>by simp at D;exact L.1 D,λD=>?_⟩
 simp at D
 have e1:cO (x.bZ -1)=x.bZ -1:=aP V V
 have l:0<=x.bZ -1/\x.bZ -1<f.ba.length:=V
 have I:=r.fp ⟨V,V,V⟩
 have X:=I.ba.pH l.1 l.2
 refine⟨h,I.g5,?_⟩
 rw[e1]
 refine⟨V,V,_,X,λB=>none λL=>by simp at B;exact L.2 B,λB=>?_⟩
 simp at B
 let⟨aa,ab⟩:=am _ (fx l.1 l.2) B
 have aI:=r.cQ.heap.len
 refine⟨h,I.g5,V,V,_,X,h,I.g5,V,V,r.fW.ba.Of l.1 l.2,?_⟩
 intro Q
 let⟨v,t3⟩:=r.xu l.1 l.2 0
 have B3:=K.to t3
 have al:ix (aG f.ba (x.bZ -1))=(aG f.ba (x.bZ -1) -1000).toNat:=rfl
 have e2:cO (aG f.ba (x.bZ -1) -1000)=aG f.ba (x.bZ -1) -1000:=aP V V
 refine⟨t3.dJ K,b,v.cQ.box.cp 8,?_⟩
 rw[e2,<-al]
 refine⟨V,V,v.cQ.heap.wr (o:=0) ab bn,?_⟩
 intro m4
 have M:cL f x.args≠[]->g C.D=0:=λw=>by
  rcases R.D with A|A
  .subst A;have:=F.len;simp at this;exact absurd (List.length_eq_zero_iff.1 this.symm) w
  .exact S.cQ.new _ V
 have av:ap Q C (cL f x.args):=iT F λw=>t3.eA _ (iI F w) (by rw[M w];simp)
 have aj:h.cap≠0:=λA=>by have:=(r.fW.ba.DA A).1;simp at this;rw[this]at l;simp at l;omega
 have ag:Rr n.size g Q b s.heap C (cL f x.args):=Rr.of z.cQ.heap (λY=>(bd _ _ _ _ λA=>by have q1:=(r.fW.ba.D aj).2;have q2:=(r.cQ.heap.D Y).1;rw[A,q1]at q2;omega).trans (Z.same _ (z.cQ.heap.D Y).2)) (λw=>R.congr (t3.eA _ (iI F w) (by rw[M w];simp))) M z.cQ.cv.size
 let⟨ai,c4⟩:=v.cQ.heap.setCell v.cQ.new ab 1 x.bQ av ag
 let⟨S4,t4⟩:=v.gE (c4.mono λaK Y=>Or.inl Y) ai
 have Y:jg s.heap (ix (aG f.ba (x.bZ -1))) ⟨1,x.bQ,cL f x.args⟩=s.heap.set (ix (aG f.ba (x.bZ -1))) ⟨1,x.bQ,cL f x.args⟩:=by rw[jg,ae V]
 refine⟨t4.dJ B3,g,b,ix (aG f.ba (x.bZ -1)),{f with ba:=gT f.ba (x.bZ -1) 0},by rw[iv aa],by rw[Y];exact S4,(af.trans t3).trans t4,rfl,rfl,rfl,λy=>?_⟩
 rw[nB,an ⟨D,B⟩,Y,iv aa];rfl
end
end
section
variable{w:Int}
def Lr:∀(b:List Int)(g:List bN),(∀v∈b,gA g v)->∀x,gA g x->gA (ji g b) x
 |[],g,_,x,c=>c
 |v::b,g,d,x,c=>by
  have e:=d v bg;have up:∀y,gA g y->gA (mT g v) y:=λy a=>⟨a.1,(fQ.mT e _).2 a.2⟩;exact Lr b (mT g v) (λy a=>up y (d y (ai _ a))) x (up x c)
def SD{h:List bN}(c:gA h w)(d:(aM h w).aQ≠1){x:Int}(a:gA h x):gA (fm h w) x:=by
 let⟨b,f⟩:=bS c;refine⟨a.1,?_⟩;by_cases e:ix x=ix w
 .rw[e];unfold fm;rw[fQ.yT b];simp only[];omega
 .exact(fQ.ne e).2 a.2
section
variable{t:E}{e:Nat->Nat}{m:E}{j:Nat}{d p aS b g:O}{c:Int}{s:St}{q:List aY}{a:aY}{r v h:O}{u:List (List Ce)}
open Classical in
noncomputable def rV (g:List bN) (w:Int) (eA:Bool):List bN:=
 if(aM g w).aQ=1/\eA=true then g.set (ix w) ⟨-1,0,dj (aM g w).aF.length⟩else apart g w
def DF(S:ST t e m j bK (IB d p c s aS b g) aS b g s.aS s.heap q a r v h u)(ab:gA s.heap w)(eA:Bool){az:Nat->Int}(N:fO s.heap az)(aZ:s.heap.length<=1000000000):
 aN cq 113 [vp j 0,vi w,vb eA] m λk A=>∃G:Bool,k=vb G/\(G=true<->(aM s.heap w).aQ=1/\eA=true)/\∃ax ar,ST t ax A j bK (IB d p c s aS ar g) aS ar g s.aS (rV s.heap w eA) q a r v h u/\To e m ax A:=by
 apply vk (j,0)
 simp -zeta only[aD,aC]
 let⟨C,a7⟩:=bS ab
 have K:=aw C
 have a2:=S.cQ.heap.len
 have a1:=ab.1
 have aJ:ix w=(w -1000).toNat:=rfl
 have e4:cO (w -1000)=w -1000:=aP V V
 have ag:=N.cell _ (aq C)
 have a4:=ag.hi
 have aX:=ag.fl
 have g8:af m j 8=some (O.v b):=S.cQ.box.cp 8
 let⟨f0,Y,g1,g2,gf,gr⟩:=S.cQ.heap.cp C
 have aY:=gf.len
 rw[e4,<-aJ]
 refine⟨b,g8,V,V,λA=>A=m/\¬((aM s.heap w).aQ=1/\eA=true),⟨_,Y,λy=>⟨λz=>?_,λz=>⟨rfl,λx=>by rw[z]at x;simp at x⟩⟩,λy=>⟨rfl,λx=>by simp at y;exact y x.1⟩⟩,?_⟩
 .simp at y
  have W:Int.toNat (f0.len:Int)=(aM s.heap w).aF.length:=V
  refine⟨f0,g2,V,dw _,V,V,?_⟩
  rw[W]
  intro B
  have I:J m B:=(J.az m).aK _
  have L:gY m B aA 1 (.mk m.size 0 (aM s.heap w).aF.length (aM s.heap w).aF.length) ((dj (aM s.heap w).aF.length).map Ce.i):=by
   have X:B=m.push (.cells (bt ((dj (aM s.heap w).aF.length).map Ce.i)) aA):=by rw[<-ub]
   rw[X];exact Og _
  let⟨D,t1⟩:=S.ext I
  clear_value B
  refine⟨D.cQ.heap.wr (o:=0) K bn,?_⟩
  intro m2
  let⟨F,E⟩:=D.cQ.heap.setCell D.cQ.new K (-1) 0 (ap.gD L (by rw[ku];omega)) (Rr.of S.cQ.heap (λx=>I.same _ (S.cQ.heap.D x).2) (λ_=>L) (λ_=>S.cQ.new _ (ad _)) S.cQ.cv.size)
  let⟨H,t2⟩:=D.gE (E.mono λx z=>Or.inl z) F
  refine⟨true,rfl,by simp[y,z],e,b,?_,t1.trans t2⟩
  rw[rV,an ⟨y,z⟩];exact H
 .rintro B ⟨rfl,ao⟩
  have ak:(false=true<->(aM s.heap w).aQ=1/\eA=true):=⟨sx,λh=>absurd h ao⟩
  rw[show rV s.heap w eA=apart s.heap w by rw[rV,ae ao]]
  refine⟨_,Y,λy=>?_,λy=>?_⟩
  .simp at y
   refine⟨S.cQ.heap.wr (o:=0) K bn,?_⟩
   intro m2
   let⟨F,E⟩:=S.cQ.heap.setCell S.cQ.new K 0 0 (f:=.nil) (l:=[]) ⟨rfl,aL,aL,aL⟩ (λT=>absurd rfl T)
   let⟨H,t2⟩:=S.gE (E.mono λx z=>Or.inl z) F
   refine⟨b,H.cQ.box.cp 8,?_⟩
   intro m3 m4
   let⟨D,Q,kb⟩:=H.OP
   refine(uI D.cQ.heap D.cQ.new kb (fJ _ _ _) bF).mono ?_
   rintro _ Z ⟨aa,P,M⟩
   let⟨I,R⟩:=D.gE M aa
   refine⟨_,P.cp 0,I.cQ.mw (i:=8) aL,?_⟩
   intro m6
   let⟨L,U⟩:=I.jy 8 [.s (b.cut 0 (jq (s.heap.set (ix w) ⟨0,0,[]⟩) (s.heap.set (ix w) ⟨0,0,[]⟩).length) 3)]
   refine⟨false,rfl,ak,_,b.cut 0 (jq (s.heap.set (ix w) ⟨0,0,[]⟩) (s.heap.set (ix w) ⟨0,0,[]⟩).length) 3,?_,((t2.trans Q).trans R).trans U⟩
   rw[apart,an y];exact L
  .simp only[aj]at y
   have W:cO ((aM s.heap w).aQ -1)=(aM s.heap w).aQ -1:=aP V V
   refine⟨_,Y,S.cQ.heap.wr (o:=0) K bn,?_⟩
   rw[W]
   intro m2
   let⟨F,E⟩:=S.cQ.heap.rG S.cQ.new C ((aM s.heap w).aQ -1)
   let⟨f1,k0,k1,k2,kf,kr⟩:=F.cp (eJ C)
   simp only[]at kf kr
   have a0:=kf.len
   refine⟨f1,k2,?_⟩
   have ai:∀{A},dm (λx=>x=3) e B e A->af A j 8=some (O.v b):=λhc=>by rw[aE (hc.eA _ S.cQ.box.lt (by rw[S.cQ.QF];decide))];exact g8
   have am:∀k∈(aM s.heap w).aF,1000<=k->gA (fm s.heap w) k:=λk D b=>SD ab y (N.field (aq C) D b)
   have aI:∀U∈fm s.heap w,-10<=U.aQ/\U.aQ<=999999:=λU hq=>by
    rcases nO hq with rfl|⟨G,_,P⟩
    .simp only[];omega
    .have:=N.cell U (aq P);have h5:=this.lo;have h6:=this.hi;omega
   have aV:dm (λx=>x=3) e B e m2:=E
   refine dT (n:=(aM s.heap w).aF.length) V (λx A=>dL t.size e A b (ji (fm s.heap w) (kW ((aM s.heap w).aF.take x)))/\dm (λx=>x=3) e B e A/\ap A f1 (aM s.heap w).aF) ⟨F,E,kf⟩ ?_
   rintro x m3 aT μ z ⟨R,H,au⟩ av
   refine dit (λh5=>?_) λh5=>?_
   .let⟨k,D⟩:=cG ((aM s.heap w).aF) x
    have aR:k<=9223372036854775807:=by
     rcases eg (1000<=k)with h6|h6
     .have:=aw (bS (N.field (aq C) (aq D) h6)).1;unfold ix at this;omega
     .omega
    have aQ:(ji (fm s.heap w) (kW ((aM s.heap w).aF.take x))).length=s.heap.length:=by rw[wo];simp[fm]
    have aK:1000<=k->gA (ji (fm s.heap w) (kW ((aM s.heap w).aF.take x))) k:=λb=>Lr _ _ (λL I=>am L (dA (lE.1 I).1) (lE.1 I).2) k (am k (aq D) b)
    refine⟨V,V,k,by simpa using au.aG D,b,ai H,(iu (R.cells (by rw[aQ];omega)) aR).mono ?_⟩
    rintro _ m4 ⟨ay,G,rfl,P,aG,Z⟩
    have L:dm (λx=>x=3) e B e m4:=H.trans (dm.eG _ Z H.new)
    have I:=R.eH (dm.eG (λ_=>False) Z H.new) id id
    have ac:=au.ext Z
    refine⟨ay,G,rfl,λah=>?_,λaH=>av V _ ⟨?_,L,ac⟩⟩
    .have al:=P.1 ah
     have aF:=aG ah
     subst aF
     let⟨Q,a5⟩:=bS al
     have aO:=aw Q
     have a3:=I.len
     obtain⟨f4,j0,_⟩:=I.cp Q
     have aW:=Aq _ _ 999999 aI _ (aq Q)
     have a6:=nR ((aM s.heap w).aF.take x)
     have a8:((aM s.heap w).aF.take x).length<=3:=bF
     have X:cO ((aM (ji (fm s.heap w) (kW ((aM s.heap w).aF.take x))) k).aQ+1)=(aM (ji (fm s.heap w) (kW ((aM s.heap w).aF.take x))) k).aQ+1:=aP V V
     have aB:Int.toNat ((ix k:Nat):Int)=ix k:=V
     refine⟨b,ai L,?_⟩
     rw[aB]
     refine⟨V,V,_,j0,V,V,I.wr (o:=0) aO bn,?_⟩
     rw[X]
     let⟨aa,M⟩:=I.rG L.new Q ((aM (ji (fm s.heap w) (kW ((aM s.heap w).aF.take x))) k).aQ+1)
     refine av V _ ⟨?_,L.trans M,iT ac λT=>M.eA _ (iI ac T) (by rw[(kr T).1];decide)⟩
     have:kW [k]=[k]:=by simp[kW,al.1]
     rw[aU D,pd,this,Er]
     exact aa
    .have M:¬1000<=k:=λb=>fb P aH (aK b)
     have:kW [k]=[]:=by simp[kW];omega
     rw[aU D,pd,this,dX];exact I
   .rw[bX V]at R
    let⟨I,t3⟩:=S.gE (H.mono λx z=>Or.inl z) R
    refine⟨false,rfl,ak,e,b,?_,t3⟩
    rw[apart,ae y];exact I
def JS(Y:ST t e m j bK (IB d p c s aS b g) aS b g s.aS s.heap q a r v h u){f:Instr}{aa al:O}(ha:ap t aa f.args)(aj:∀z∈f.args,0<=z/\z<a.ak.length)(aq:f.args.length<=4)(av:f.op=0\/f.op=1\/f.op=2\/f.op=3\/f.op=4\/f.op=5)(h5:f.op=5->f.args.length=1)(h2:f.op≠0->f.op≠5->f.args.length=2)(ac:f.op≠0->∀z∈f.args,gP (aG a.ak z))
 (ar:a.ak.length=a.aR.length/\a.ba.length=a.aR.length/\a.aR.length<=2000)(hd:0<=f.dst/\f.dst<a.aR.length)(aw:s.aS.length<=1000000000):
 aN cq 102 [vp j 0,vp g.D (g.off+q.length*6),xv f aa al] m λ_ w=>DW t e m j d p c (if f.op=0 then{s with ao:=q++[a.put f.dst f.bQ 0]}else if f.op=5 then{s with aS:=s.aS++[aG a.ak (aG f.args 0)],ao:=q++[a.put f.dst (aG a.ak (aG f.args 0)) 0]}else{s with ao:=q++[a.put f.dst (OY f.op (aG a.ak (aG f.args 0)) (aG a.ak (aG f.args 1))) 0]}) w:=by
 apply tz (j,0) (g.D,g.off+q.length*6)
 simp -zeta only[aD,aC]
 intro y
 have ak:J m y:=(J.az m).aK _
 have s1:y.size=m.size+1:=by simp[y]
 let⟨K,t1⟩:=Y.ext ak
 have T:zE e y [m.size]:=λab C=>by simp at C;subst C;exact⟨V,Y.cQ.new _ (ad _)⟩
 clear_value y
 have X:=K.fp ⟨V,V,V⟩
 refine(vn X.g3 X.ak (ha.ext K.cQ.cv) aj V).mono ?_
 rintro _ l ⟨ws,rfl,ow,ai⟩
 let⟨A,t2⟩:=K.ext ai
 have I:=T.to t2
 have ax:(cL a f.args).length=f.args.length:=by simp[cL]
 have D:ap l ws (cL a f.args):=ap.gD ow V
 have ay:=D.len
 have ah:=t1.trans t2
 have S:∀{F:Nat},F<f.args.length->(cL a f.args)[F]? =some (aG a.ak (aG f.args F)):=λ{F} hk=>by
  let⟨z,hy⟩:=dB hk;simp[cL,hy,Ya hy]
 have ag:∀{M:E}(hx:J l M)(H:Int),aN cq 103 [vp g.D (g.off+q.length*6),vi f.dst,vi H,vi 0] M λ_ w=>eF [m.size] M w/\DW t e m j d p c {s with ao:=q++[a.put f.dst H 0]} w:=λhx H=>by
  let⟨SM,tM⟩:=A.ext hx;refine(rB SM hd.1 V hd.2 H 0).mono ?_;rintro _ w ⟨S',t'⟩;exact⟨t'.dJ (I.to tM),e,aS,b,g,S'.cQ,(ah.trans tM).trans t'⟩
 refine⟨t2.dJ T,ws,rfl,λo=>?_,λn=>⟨λo=>?_,λN=>?_⟩⟩
 .simp at o;rw[an o];exact ag (J.az _) _
 .simp at n o
  rw[ae n,an o]
  have h1:=h5 o
  have au:(O.len aS)=s.aS.length:=by have:=A.cQ.aS.len;simp at this;omega
  refine⟨V,V,_,D.aG (k:=0) (S V),aS,A.cQ.box.cp 7,?_⟩
  intro G
  have B:J l G:=(J.az l).aK _
  have jw:fR G l.size 0 [.i (aG a.ak (aG f.args ((0:Nat):Int)))]:=(cD.push l _ _).iD
  let⟨L,t3⟩:=A.ext B
  have U:=I.to t3
  clear_value G
  refine iJ.append (zs:=[.i 0]) (x:=.mk l.size 0 1 1) (c:=[.i (aG a.ak (aG f.args 0))]) L.cQ.aS L.cQ.new rfl jw (by simp only[O.gH];omega) λaf P m4 q1 q2=>?_
  have am:iJ af m4 aA 1 2 P ((s.aS++[aG a.ak (aG f.args 0)]).map Ce.i):=by simpa using q1
  let⟨Z,Q⟩:=L.Ip q2 am
  have W:=U.to Q
  refine⟨Q.dJ U,Z.cQ.mw (i:=7) aL,?_⟩
  intro m5
  let⟨S5,R⟩:=Z.jy 7 [.s P]
  refine⟨R.dJ W,(rB S5 hd.1 V hd.2 (aG a.ak (aG f.args 0)) 0).mono ?_⟩
  rintro _ m6 ⟨S6,t6⟩
  exact⟨t6.dJ (W.to R),af,P,b,g,S6.cQ,(((ah.trans t3).trans Q).trans R).trans t6⟩
 .simp at n N
  rw[ae n,ae N]
  have h1:=h2 n N
  refine⟨V,V,_,D.aG (k:=0) (S V),V,V,_,D.aG (k:=1) (S V),?_⟩
  refine(OQ (ac n _ (fx V V)) (ac n _ (fx V V)) l).mono ?_
  rintro _ G ⟨rfl,B⟩
  exact⟨B.dq (λab C=>(I ab C).1),_,rfl,ag B _⟩
end
end
section
variable{b1 b2 b3 b k:Nat}{j:cT}{g:Int}{q:dy}{a:E}{e:List Int}
section
variable{y:E}{v:Nat->Nat}{u:E}{x:Nat}{d p aS z t:O}{c:Int}{s:St}{l:List aY}{f:aY}{r o h:O}{A:List (List Ce)}
def OR(S:ST y v u x bK (IB d p c s aS z t) aS z t s.aS s.heap l f r o h A){b:Instr}{m aB:O}(P:ap y m b.args)(ag:∀e∈b.args,0<=e/\e<f.ak.length)(au:1<=b.args.length/\b.args.length<=4)
 (aK:f.ak.length=f.aR.length/\f.ba.length=f.aR.length/\f.aR.length<=2000)(ay:s.heap.length<=1000000000)(aj:∀q∈f.aR,0<=q/\q<=999999)
 (az:gA s.heap (aG f.ak (aG b.args 0))){am:Nat->Int}(hI:fO s.heap am){R:Int}(ak:f.pc=R+1):
 aN cq 108 [vp x 0,vp t.D (t.off+l.length*6),xv b m aB] u λ_ a=>DW y v u x d p c (tB s l {f with pc:=R} b) a:=by
 apply vZ (x,0) (t.D,t.off+l.length*6)
 simp -zeta only[aD,aC]
 intro L
 have aA:J u L:=(J.az u).aK _
 have s1:L.size=u.size+1:=by simp[L]
 let⟨N,t1⟩:=S.ext aA
 have B1:zE v L [u.size]:=λac G=>by simp at G;subst G;exact⟨V,S.cQ.new _ (ad _)⟩
 clear_value L
 have aQ:r.len=f.ak.length:=by have:=S.fW.ak.len;simp at this;omega
 have aO:o.len=f.aR.length:=by have:=S.fW.aR.len;simp at this;omega
 have aJ:h.len=f.ba.length:=by have:=S.fW.ba.len;simp at this;omega
 have aF:=P.len
 have aE:=P.cap
 have F:0<=aG b.args 0/\aG b.args 0<f.ak.length:=ag _ (fx V V)
 have ga:∀{a},J y a->af a m.D (m.off+Int.toNat (0:Int)*1)=some (vi (aG b.args 0)):=λhx=>(P.ext hx).pH V V
 obtain⟨_,_,_,g3,_,_⟩:=N.fW.iD
 generalize hw:aG f.ak (aG b.args 0)=w at*
 refine⟨r,g3,V,V,_,ga N.cQ.cv,F.1,V,w,by rw[<-hw];exact(N.Au V).pH F.1 F.2,(DF N az (b.op==17) hI ay).mono ?_⟩
 rintro _ m2 ⟨ac,rfl,G,C,H,K,t2⟩
 have T:=B1.to t2
 have ar:(b.op==17)=true<->b.op=17:=aL
 rw[ar]at G
 have e1:Int.toNat (1:Int)=1:=rfl
 have e2:Int.toNat (m.len:Int)=m.len:=V
 have Z:∀{a},J y a->ap a (O.cut m 1 m.len 1) (b.args.drop 1):=λhx=>U1 (P.ext hx) au.1
 have aH:(O.cut m 1 m.len 1).len=b.args.length -1:=by have:=(Z (J.az y)).len;simp at this;omega
 have aI:(b.args.drop 1).length=b.args.length -1:=aL
 have ah:∀e∈b.args.drop 1,0<=e/\e<f.ak.length:=λe B=>ag e (wT B)
 rw[e1,e2]
 refine⟨t2.dJ B1,ac,rfl,λax=>?_,λaw=>?_⟩
 .obtain⟨_,_,_,_,_,g5⟩:=K.fW.iD
  have Q:=G.1 ax
  refine⟨h,g5,V,V,_,ga K.cQ.cv,F.1,V,K.fW.ba.Of F.1 V,?_⟩
  intro m3
  let⟨S3,t3⟩:=K.xu F.1 V w
  refine⟨t3.dJ T,V,V,V,?_⟩
  refine dT (n:=(b.args.drop 1).length) V (λk a=>ST y C a x bK (IB d p c s aS H t) aS H t s.aS (rV s.heap w (b.op==17)) l {f with ba:=gT f.ba (aG b.args 0) w,aR:=dE f.aR ((b.args.drop 1).take k)} r o h A/\To v u C a/\zE C a [u.size]) ⟨by rw[List.take_zero];exact S3,(t1.trans t2).trans t3,(T.to t3)⟩ ?_
  rintro k m4 al μ hk ⟨g,M,I⟩ ab
  have aa:∀q∈dE f.aR ((b.args.drop 1).take k),0<=q/\q<=1000010:=λq hq=>by
   have:=qU _ f.aR 999999 V aj q hq;have h3:((b.args.drop 1).take k).length<=4:=bF;omega
  refine dit (λY=>?_) λY=>?_
  .let⟨e,B⟩:=cG (b.args.drop 1) k
   have j:=ah e (aq B)
   have D:e<(dE f.aR ((b.args.drop 1).take k)).length:=by rw[lP];omega
   have av:=FF (i:=e) aa V
   have W:cO (aG (dE f.aR ((b.args.drop 1).take k)) e+1)=aG (dE f.aR ((b.args.drop 1).take k)) e+1:=aP V V
   obtain⟨_,_,_,_,X,_⟩:=g.fW.iD
   refine⟨V,V,e,by simpa using(Z g.cQ.cv).aG B,o,X,j.1,V,_,(g.JC (by simp only[lP];omega)).pH j.1 D,j.1,V,g.fW.aR.Of j.1 D,?_⟩
   rw[W]
   intro m5
   let⟨U,E⟩:=g.pV j.1 D (aG (dE f.aR ((b.args.drop 1).take k)) e+1)
   refine⟨E.dJ I,ab V _ ⟨?_,M.trans E,I.to E⟩⟩
   rw[aU B,sJ];exact U
  .rw[bX V]at g
   refine⟨C,aS,H,t,?_,M⟩
   have:tB s l {f with pc:=R} b={s with heap:=rV s.heap w (b.op==17),ao:=l++[{f with ba:=gT f.ba (aG b.args 0) w,aR:=dE f.aR (b.args.drop 1)}]}:=by
    unfold tB;simp only[];rw[hw,an Q,rV,an (by simpa using Q),ak]
   rw[this];exact g.cQ
 .have ai:¬((aM s.heap w).aQ=1/\b.op=17):=λQ=>by have:=G.2 Q;rw[aw]at this;simp at this
  refine⟨V,V,V,?_⟩
  refine dT (n:=(b.args.drop 1).length) V (λk a=>ST y C a x bK (IB d p c s aS H t) aS H t s.aS (rV s.heap w (b.op==17)) l {f with aR:=dE f.aR ((b.args.drop 1).take k)} r o h A/\To v u C a/\zE C a [u.size]) ⟨by simpa[dE]using K,t1.trans t2,T⟩ ?_
  rintro k m4 al μ hk ⟨g,M,I⟩ ab
  have aa:∀q∈dE f.aR ((b.args.drop 1).take k),0<=q/\q<=1000010:=λq hq=>by
   have:=qU _ f.aR 999999 V aj q hq;have h3:((b.args.drop 1).take k).length<=4:=bF;omega
  refine dit (λY=>?_) λY=>?_
  .let⟨e,B⟩:=cG (b.args.drop 1) k
   have j:=ah e (aq B)
   have D:e<(dE f.aR ((b.args.drop 1).take k)).length:=by rw[lP];omega
   have av:=FF (i:=e) aa V
   have W:cO (aG (dE f.aR ((b.args.drop 1).take k)) e+1)=aG (dE f.aR ((b.args.drop 1).take k)) e+1:=aP V V
   obtain⟨_,_,_,_,X,_⟩:=g.fW.iD
   refine⟨V,V,e,by simpa using(Z g.cQ.cv).aG B,o,X,j.1,V,_,(g.JC (by simp only[lP];omega)).pH j.1 D,j.1,V,g.fW.aR.Of j.1 D,?_⟩
   rw[W]
   intro m5
   let⟨U,E⟩:=g.pV j.1 D (aG (dE f.aR ((b.args.drop 1).take k)) e+1)
   refine⟨E.dJ I,ab V _ ⟨?_,M.trans E,I.to E⟩⟩
   rw[aU B,sJ];exact U
  .rw[bX V]at g
   refine⟨C,aS,H,t,?_,M⟩
   have:tB s l {f with pc:=R} b={s with heap:=rV s.heap w (b.op==17),ao:=l++[{f with aR:=dE f.aR (b.args.drop 1)}]}:=by
    unfold tB;simp only[];rw[hw,ae ai,rV,ae (by simpa using ai),ak]
   rw[this];exact g.cQ
def nJ.none{v:Nat->Nat}{u:E}:nJ v u .nil []:=⟨[],iJ.gD (gY.nil u u _ _) (λa=>absurd rfl a),rfl,aL,aL⟩
def HU(S:ST y v u x bK (IB d p c s aS z t) aS z t s.aS s.heap l f r o h A)(ad:l.length<=100000)(w:Int)(U:∀g,l.getLast?=some g->0<=f.dst/\f.dst<g.ak.length/\f.dst<g.aR.length):
 aN cq 114 [vp x 0,vi w] u λ_ a=>DW y v u x d p c (match l.getLast? with|none=>{s with cE:=0,value:=w,ao:=[]}|some g=>{s with ao:=l.dropLast++[g.put f.dst w (gK w)]}) a:=by
 apply sN (x,0)
 simp -zeta only[aD,aC]
 have G:=S.fW.yh
 have aa:=S.fW.qt.le
 have B:cO ((t.len:Int) -1)=(l.length:Int):=by rw[aP V V];omega
 have L:Int.toNat (l.length:Int)=l.length:=V
 have C:af u x 9=some (O.v t):=S.cQ.box.cp 9
 obtain⟨_,_,g2,_,_,_⟩:=S.fW.iD
 refine⟨t,C,t,C,?_⟩
 rw[B,L]
 refine⟨V,V,f.dst,g2,t,C,V,V,V,S.cQ.mw (i:=9) aL,?_⟩
 intro H
 let⟨q,t2⟩:=S.cQ.jy 9 [.s (t.cut 0 l.length 6)]
 obtain⟨b,_⟩:=q.jM (dm.az _ q.new) (q.ao.Vj)
 have ab:(t.cut 0 l.length 6).len=l.length:=by
  cases t with
  |nil=>simp at G
  |zW j I k=>simp at G
  |mk j I e c=>simp[O.cut]
 have e3:Int.toNat (0:Int)=0:=rfl
 refine⟨λD=>?_,λD=>?_⟩
 .have J:l=[]:=by simpa using D
  subst J
  refine⟨b.mw (i:=3) (by simp[kU]),?_⟩
  intro X
  let⟨j,t3⟩:=b.jy 3 [.i 0]
  refine⟨j.mw (i:=4) (by simp[kU]),?_⟩
  intro Y
  let⟨k,E⟩:=j.jy 4 [.i w]
  refine⟨k.mw (i:=9) (by simp[kU]),?_⟩
  intro K
  let⟨n,M⟩:=k.jy 9 [.s .nil]
  obtain⟨F,_⟩:=n.jM (dm.az _ n.new) (nJ.none (v:=v) (u:=K))
  exact⟨v,aS,z,.nil,F,((t2.trans t3).trans E).trans M⟩
 .have n:l≠[]:=by simpa using D
  have ae:l.length≠0:=λB=>n (List.length_eq_zero_iff.1 B)
  obtain⟨g,j⟩:∃g,l.getLast?=some g:=⟨_,gG n⟩
  let⟨P,Q,R⟩:=U g j
  rw[j]
  simp only[]
  have W:l=l.dropLast++[g]:=by
   rw[gG n]at j;simp at j;rw[<-j];exact(ft n).symm
  have k:vf y v H x bK (IB d p c s aS z (t.cut 0 l.length 6)) aS z (t.cut 0 l.length 6) s.aS s.heap (l.dropLast++[g]):=
   ⟨b.cv,b.jK,b.new,b.box,b.QF,b.aS,b.heap,by rw[<-W];exact b.ao⟩
  let⟨r',I,h',Z,T⟩:=k.ao.fW
  have ac:l.dropLast.length=l.length -1:=aL
  have M:cO ((l.length:Int) -1)=((l.length -1:Nat):Int):=by rw[aP V V];omega
  have N:Int.toNat ((l.length -1:Nat):Int)=l.dropLast.length:=V
  refine⟨t.cut 0 l.length 6,k.box.cp 9,?_⟩
  rw[M,N]
  refine⟨V,V,(mW w H).mono ?_⟩
  rintro _ X ⟨rfl,F⟩
  let⟨J,t3⟩:=(ST.mk k T).ext F
  refine⟨_,rfl,F.da (k.box.cp 9),(rB J P Q R w (gK w)).mono ?_⟩
  rintro _ Y ⟨K,E⟩
  exact⟨v,aS,z,_,K.cQ,(t2.trans t3).trans E⟩
end
def YD{m M:E}(j:J m M){nb:Nat}(o:m.size<=nb)(t:nb<M.size)(b:Nat)(i:List Ce)
 (c:(b1=M.size\/b1=M.size+1\/b1=M.size+2)/\(b2=M.size\/b2=M.size+1\/b2=M.size+2)/\(b3=M.size\/b3=M.size+1\/b3=M.size+2)/\b1≠b2/\b1≠b3/\b2≠b3):
 rm m (ah (((M.push (.cells (bt (mK [.i (0:Int)] b)) 3)).push (.cells (bt (mK [.i (0:Int)] b)) 3)).push (.cells (bt (mK [.i (0:Int)] b)) 3)) nb 0 i) b1 b2 b3 b (dj b) (dj b) (dj b):=by
 rw[ub]
 generalize d:M.push (.cells (bt ((dj b).map Ce.i)) 3)=m2
 generalize e:m2.push (.cells (bt ((dj b).map Ce.i)) 3)=m3
 generalize f:m3.push (.cells (bt ((dj b).map Ce.i)) 3)=m4
 have k:m2.size=M.size+1:=by simp[<-d]
 have l:m3.size=M.size+2:=by simp[<-e,k]
 have u:m4.size=M.size+3:=by simp[<-f,l]
 have s:J M m2:=d▸J.push _ _
 have n:J m2 m3:=e▸J.push _ _
 have h:J m3 m4:=f▸J.push _ _
 have p:cD m4 M.size aA ((dj b).map Ce.i):=((d▸cD.push M _ _:cD m2 M.size aA ((dj b).map Ce.i)).ext n).ext h
 have q:cD m4 m2.size aA ((dj b).map Ce.i):=(e▸cD.push m2 _ _:cD m3 m2.size aA ((dj b).map Ce.i)).ext h
 have r:cD m4 m3.size aA ((dj b).map Ce.i):=f▸cD.push m3 _ _
 have g:∀a,(a=M.size\/a=M.size+1\/a=M.size+2)->cD (ah m4 nb 0 i) a aA ((dj b).map Ce.i):=λa c=>by
  have:cD m4 a aA ((dj b).map Ce.i):=by
   rcases c with rfl|rfl|rfl
   .exact p
   .rw[<-k];exact q
   .rw[<-l];exact r
  exact this.congr (bd _ _ _ _ V)
 exact⟨(j.trans ((s.trans n).trans h)).ah o _ _,by have:=j.size;rw[av];omega,g _ c.1,g _ c.2.1,g _ c.2.2.1,by simp[ku]⟩
def HY{m:E}{d p:O}(f:fg m d p j)(o:0<=g)(h:j.cF[g.toNat]? =some q)(b:0<=q.ak/\q.ak<=2000)(e:Int):
 aN cq 83 [.agg #[O.v d,O.v p],vi g,vi e] m λv a=>∃b1 b2 b3,v=.agg #[vi g,vi 0,vi e,O.v (.mk b1 0 q.ak.toNat q.ak.toNat),O.v (.mk b2 0 q.ak.toNat q.ak.toNat),O.v (.mk b3 0 q.ak.toNat q.ak.toNat)]/\
  rm m a b1 b2 b3 q.ak.toNat (dj q.ak.toNat) (dj q.ak.toNat) (dj q.ak.toNat):=by
 apply Cx
 simp -zeta only[aD,aC]
 intro k c
 have i:J m c:=((J.az m).aK _).aK _
 have s:k.size=m.size+1:=by simp[k]
 have C:c.size=m.size+2:=by simp[c,s]
 have y:=f.cF.len
 have x:=aw h
 clear_value c
 obtain⟨u,z,w,_,_,_,_,_,_,r,_⟩:=(f.ext i).cF.aG h
 refine⟨o,V,q.ak,r,⟨b.1,dw _,V,V,?_⟩,⟨b.1,dw _,V,V,?_⟩,⟨b.1,dw _,V,V,?_⟩⟩
 all_goals
  intro l
  refine⟨⟨b.1,dw _,V,V,?_⟩,⟨b.1,dw _,V,V,?_⟩⟩
  all_goals
   intro n
   refine⟨b.1,dw _,V,V,?_⟩
   intro A B
   have t:l.size=c.size+1:=by simp[l]
   have D:n.size=c.size+2:=by simp[n,t]
   exact⟨_,_,_,rfl,YD i V V q.ak.toNat _ V⟩
def rm.Az{d:E}{ak aR ba:List Int}(N:rm d a b1 b2 b3 b ak aR ba)(e:k<b)(v:Int):fL a b1 k 1/\rm d (ah a b1 k [.i v]) b1 b2 b3 b (ak.set k v) aR ba:=by
 have c:=N.lo;refine⟨N.kr.fL (by simp[N.len.1];omega),N.ext.ah c.1 _ _,by rw[av];exact c,?_,N.ko.congr (bd _ _ _ _ V),N.kh.congr (bd _ _ _ _ V),by simp[N.len]⟩;have:=cD.ah (m:=a) (o:=k) (r:=[.i v]) N.kr;rw[Ay]at this;exact this
def rm.pV{d:E}{ak aR ba:List Int}(N:rm d a b1 b2 b3 b ak aR ba)(e:k<b)(v:Int):fL a b2 k 1/\rm d (ah a b2 k [.i v]) b1 b2 b3 b ak (aR.set k v) ba:=by
 have c:=N.lo;refine⟨N.ko.fL (by simp[N.len.2.1];omega),N.ext.ah c.2.1 _ _,by rw[av];exact c,N.kr.congr (bd _ _ _ _ V),?_,N.kh.congr (bd _ _ _ _ V),by simp[N.len]⟩;have:=cD.ah (m:=a) (o:=k) (r:=[.i v]) N.ko;rw[Ay]at this;exact this
def yr(cR:List Int):∀(e r:List Int)(k:Nat),dN cR k (e++r)=dN cR k e++dN cR (k+e.length) r
 |[],r,k=>by simp[dN]
 |b::e,r,k=>by
  have:=yr cR e r (k+1);simp only[cZ,dN,this,aZ];have a:k+(e.length+1)=k+1+e.length:=V;rw[a]
def My{k:Nat}(h:k<b):dj (b -k)=0::dj (b -(k+1)):=by
 have:b -k=(b -(k+1))+1:=V;rw[this];rfl
def VR(h:e.length<b)(v:Int):(e++dj (b -e.length)).set e.length v=(e++[v])++dj (b -(e.length+1)):=by
 rw[My h];simp
def Yq(h:e.length<b):e++dj (b -e.length)=(e++[0])++dj (b -(e.length+1)):=by
 rw[My h];simp
section
variable{A:E}{t:Nat->Nat}{m:E}{z:Nat}{d p aS y v:O}{c:Int}{s:St}{u:List aY}{w:aY}{r o h:O}{B:List (List Ce)}
def FX(W:ST A t m z bK (IB d p c s aS y v) aS y v s.aS s.heap u w r o h B)(aQ:fg A d p j)(am:0<=g)(Z:j.cF[g.toNat]? =some q)(aT:0<=q.ak/\q.ak<=2000){ws:O}{b:List Int}(hw:ap m ws b)(aV:b≠[]->t ws.D=0)(bb:(b.length:Int)<=q.ak)(U:Instr)(ab aX:O)
 (a6:u.length<=10000)(a4:0<=s.bu/\s.bu<=100000):
 aN cq 112 [vp z 0,vi g,O.v ws,xv U ab aX] m λ_ a=>DW A t m z d p c {s with bu:=s.bu+1,ao:=if U.op=24 then u++[bW j g w.dst b]else u++[w,bW j g U.dst b]} a:=by
 apply vY (z,0)
 simp -zeta only[aD,aC]
 intro R
 have aW:J m R:=(J.az m).aK _
 have s1:R.size=m.size+1:=by simp[R]
 let⟨S1,t1⟩:=W.ext aW
 have B1:zE t R [m.size]:=λC D=>by simp at D;subst D;exact⟨V,W.cQ.new _ (ad _)⟩
 clear_value R
 have a5:=W.fW.yh
 have a0:=W.fW.qt.le
 have e0:cO (s.bu+1)=s.bu+1:=aP V V
 have aG:cO ((v.len:Int) -1)=(u.length:Int):=by rw[aP V V];omega
 have e2:Int.toNat (u.length:Int)=u.length:=V
 refine⟨s.bu,S1.cQ.box.cp 5,S1.cQ.mw (i:=5) aL,?_⟩
 rw[e0]
 intro m2
 let⟨P,t2⟩:=S1.jy 5 [.i (s.bu+1)]
 replace P:ST A t m2 z bK (IB d p c {s with bu:=s.bu+1} aS y v) aS y v s.aS s.heap u w r o h B:=P
 replace t2:To t R t m2:=t2
 have B2:=B1.to t2
 have g9:af m2 z 9=some (O.v v):=P.cQ.box.cp 9
 obtain⟨_,_,g2,_,_,_⟩:=P.fW.iD
 refine⟨t2.dJ B1,v,g9,?_⟩
 rw[aG,e2]
 clear_value m2
 have ay:=t1.trans t2
 refine⟨λI a=>∃K X,vf A t a z bK (IB d p c {s with bu:=s.bu+1} aS y X) aS y X s.aS s.heap K/\To t m t a/\zE t a [m.size]/\K.length<=10001/\(if U.op=24 then u++[bW j g w.dst b]else u++[w,bW j g U.dst b])=K++[bW j g I b],⟨λT=>?_,λT=>?_⟩,?_⟩
 .simp at T
  refine⟨v,g9,V,V,w.dst,g2,v,g9,V,V,V,P.cQ.mw (i:=9) aL,?_⟩
  intro Q
  let⟨G,t3⟩:=P.cQ.jy 9 [.s (v.cut 0 u.length 6)]
  obtain⟨k,_⟩:=G.jM (dm.az _ G.new) (G.ao.Vj)
  refine⟨t3.dJ B2,u,v.cut 0 u.length 6,k,ay.trans t3,B2.to t3,V,?_⟩
  rw[an T]
 .simp at T
  refine⟨u++[w],v,P.cQ,ay,B2,bF,?_⟩
  rw[ae T];simp
 rintro I Q ⟨K,X,G,t3,B3,hX,aI⟩
 rw[aI]
 have ah:dO j g=q:=by simp[dO,Z]
 have ag:=aQ.ext G.cv
 refine⟨d,G.box.cp 0,p,G.box.cp 1,(HY ag am Z aT I).mono ?_⟩
 rintro _ L ⟨b1,b2,b3,rfl,aa⟩
 have a7:=aa.lo
 have al:∀C∈[m.size],C<Q.size:=λC D=>(B3 C D).1
 have a9:m.size<Q.size:=al _ aL
 refine⟨aa.ext.dq al,_,_,_,_,_,_,rfl,?_⟩
 intro m5 m6
 have aH:J L m6:=((J.az L).aK _).ah (ad _) _ _
 have s6:m6.size=L.size+1:=by simp[m6,m5,av]
 have N6:=aa.Sy aH
 clear_value m6
 have ba:=hw.len
 have iw:∀{M},J Q M->ap M ws b:=λhx=>(iT hw λk=>t3.eA _ (iI hw k) (by rw[aV k];decide)).ext hx
 obtain⟨pa,pl,pc,_,aO,_,_,k1,_,_,_⟩:=ag.cF.aG Z
 have a8:=aw Z
 have a_:=ag.cF.len
 have aq:∀(k:Nat),(q.cR.any λF=>F==(k:Int))=true<->(k:Int)∈q.cR:=λk=>aL
 simp -zeta only[O.jD,O.mZ,O.gH,bT]
 refine dT (n:=b.length) V (λk a=>rm Q a b1 b2 b3 q.ak.toNat (b.take k++dj (q.ak.toNat -k)) (dN q.cR 0 (b.take k)++dj (q.ak.toNat -k)) (dj q.ak.toNat)/\L.size<a.size) ⟨by simpa[dN]using N6,V⟩ ?_
 rintro k H aZ μ hk ⟨S,s7⟩ ar
 have tG:∀{ma mc:E},(∀C,C=L.size\/C=m.size->mc[C]? =ma[C]?)->eF [L.size,m.size] ma mc:=λhh C D=>hh C (by simpa using D)
 have tk:(b.take k).length=k:=bF
 have au:(dN q.cR 0 (b.take k)).length=k:=by rw[lV,tk]
 refine dit (λh1=>?_) λh1=>?_
 .let⟨F,hy⟩:=cG b k
  have ek:Int.toNat (k:Int)*1=k:=V
  have aj:k<q.ak.toNat:=V
  let⟨w8,N⟩:=S.Az aj F
  have er:(b.take k++dj (q.ak.toNat -k)).set k F=b.take (k+1)++dj (q.ak.toNat -(k+1)):=by
   have:=VR (e:=b.take k) (b:=q.ak.toNat) V F;rw[tk]at this;rw[this,aU hy]
  rw[er]at N
  have eo:dN q.cR 0 (b.take (k+1))=dN q.cR 0 (b.take k)++[if q.cR.any (λF=>F==(k:Int))then 0 else gK F]:=by
   rw[aU hy,yr,tk];simp[dN]
  refine⟨V,V,F,by simpa using(iw S.ext).aG hy,V,V,?_⟩
  rw[ek]
  refine⟨w8,?_⟩
  intro m8
  have s8:m8.size=H.size:=av _ _ _ _
  refine⟨tG λC D=>bd _ _ _ _ V,?_⟩
  replace N:rm Q m8 b1 b2 b3 q.ak.toNat (b.take (k+1)++dj (q.ak.toNat -(k+1))) (dN q.cR 0 (b.take k)++dj (q.ak.toNat -k)) (dj q.ak.toNat):=N
  clear_value m8
  refine⟨p,N.ext.af (G.box.cp 1),am,V,pl,N.ext.af k1,(lW (aO.ext N.ext) _).mono ?_⟩
  rintro _ m9 ⟨C,rfl,D,ac⟩
  have N9:=N.Sy ac
  have s9:=ac.size
  refine⟨ac.dq bF,C,rfl,λaz=>?_,λax=>?_⟩
  .have aB:¬((k:Int)∈q.cR):=nb D az
   refine(mW F m9).mono ?_
   rintro _ aK ⟨rfl,Y⟩
   have aM:=Y.size
   let⟨aJ,ai⟩:=(N9.Sy Y).pV aj (gK F)
   have ak:(dN q.cR 0 (b.take k)++dj (q.ak.toNat -k)).set k (gK F)=dN q.cR 0 (b.take (k+1))++dj (q.ak.toNat -(k+1)):=by
    have:=VR (e:=dN q.cR 0 (b.take k)) (b:=q.ak.toNat) V (gK F);rw[au]at this;rw[this,eo,ae (λhh=>aB ((aq k).1 hh))]
   rw[ak]at ai
   refine⟨Y.dq bF,_,rfl,aE (Y.same L.size V) 4,V,V,aJ,?_⟩
   intro aF
   refine⟨tG λC D=>bd _ _ _ _ V,ar V _ ⟨ai,by simp only[aF,av];omega⟩⟩
  .have Y:(k:Int)∈q.cR:=yb D ax
   refine ar V _ ⟨?_,V⟩
   have:=Yq (e:=dN q.cR 0 (b.take k)) (b:=q.ak.toNat) V
   rw[au]at this
   rw[eo,an ((aq k).2 Y),<-this];exact N9
 .have aR:k=b.length:=V
  subst aR
  rw[fw]at S
  have hc:dm (λ_=>False) t Q (pS t b1 b2 b3 K.length) H:=S.eH G.new
  let⟨a1,a2,a3⟩:=S.qt (a:=t) (g:=K.length)
  let⟨F,t7⟩:=G.gE (hc.mono λ_=>False.elim) (G.heap.eH hc id id)
  have B7:zE (pS t b1 b2 b3 K.length) H [L.size,m.size]:=λC D=>by
   simp at D;refine⟨V,?_⟩;unfold pS;rw[eV V,eV V,eV V];rcases D with rfl|rfl
   .exact G.new _ V
   .exact(B3 _ aL).2
  refine⟨X,F.box.cp 9,?_⟩
  intro N
  have ac:J H N:=(J.az H).aK _
  have jw:fR N H.size 0 [.i g,.i 0,.i I,.s (.mk b1 0 q.ak.toNat q.ak.toNat),.s (.mk b2 0 q.ak.toNat q.ak.toNat),.s (.mk b3 0 q.ak.toNat q.ak.toNat)]:=(cD.push H _ _).iD
  let⟨Y,az⟩:=F.ext ac
  have aj:=B7.to az
  clear_value N
  have ch:=λ{k:Nat}{s:O}{e:List Ce}(ab:iJ (pS t b1 b2 b3 K.length) H aA 1 k s e)=>ab.eH (dm.eG (λ_=>False) ac F.new) id
  have aM:(bW j g I b).ak=b++dj (q.ak.toNat -b.length):=by simp[bW,ah]
  have aK:(bW j g I b).aR=dN q.cR 0 b++dj (q.ak.toNat -b.length):=by simp[bW,ah]
  have aJ:(bW j g I b).ba=dj q.ak.toNat:=by simp[bW,ah]
  refine⟨ac.da (F.box.cp 9),nJ.push Y.ao Y.new (x:=.mk H.size 0 1 1) rfl (a:=bW j g I b) jw (by rw[aM];exact ch a1) (by rw[aK];exact ch a2) (by rw[aJ];exact ch a3) V λax qs aY q1 q2=>?_⟩
  have ai:To _ N ax aY:=q2.mono λk hk=>V
  let⟨ak,be⟩:=Y.jM (q2.mono λk hk=>V) q1
  refine⟨ai.dJ aj,ak.mw (i:=9) aL,?_⟩
  intro bc
  let⟨aF,aB⟩:=ak.jy 9 [.s qs]
  exact⟨aB.dJ (aj.to ai),ax,aS,y,qs,aF,(((t3.trans t7).trans az).trans ai).trans aB⟩
end
end
section
def Mt(ak:List Int):∀(b aR:List Int)(n:Int),(∀q∈aR,n<=q)->∀q∈bD ak aR b,n -b.length<=q
 |[],aR,n,h,q,c=>by have:=h q c;simp;omega
 |r::b,aR,n,h,q,c=>by
  have k:∀d,(∀q∈d,n -1<=q)->q∈bD ak d b->n -(r::b).length<=q:=λd j a=>by
   have:=Mt ak b d (n -1) j q a;simp only[aZ];omega
  rw[bD]at c;refine k _ (λg a=>?_) c;split at a
  .rcases pN a with e|e
   .rcases aW r.toNat aR.length with f|f
    .let⟨y,i⟩:=dB f;have:=h y (aq i);rw[HM i]at e;omega
    .have:gT aR r (aG aR r -1)=aR:=by unfold gT;exact rR f
     rw[this]at a;have:=h g a;omega
   .have:=h g e;omega
  .have:=h g a;omega
section
variable{q:E}{g:Nat->Nat}{m:E}{k:Nat}{d p aS j c:O}{a:St}{b:List aY}{f:aY}{r t h:O}{u:List (List Ce)}
def Q7{z:cT}{v:Instr}(C:zG z a b f v){aR:List Int}(aH:aR=bD f.ak f.aR (bU z v))(hM:lp z a f v aR)
 (aa:ST q g m k bK (IB d p (cg z) a aS j c) aS j c a.aS a.heap b f r t h u)(a9:fg q d p z){ak aV:O}(ha:ap q ak v.args)(hj:ap q aV v.eM)(cH:a.heap.length<=900000000)(cM:a.aS.length<=900000000):
 aN cq 60 [vp k 0,vp c.D (c.off+b.length*6),xv v ak aV] m λ_ Q=>DW q g m k d p (cg z) (fV z a b f v aR) Q:=by
 apply yN (k,0) (c.D,c.off+b.length*6)
 simp -zeta only[aD,aC]
 intro m1
 have co:J m m1:=(J.az m).aK _
 have s1:m1.size=m.size+1:=by simp[m1]
 let⟨S1,t1⟩:=aa.ext co
 have B1:zE g m1 [m.size]:=λP hb=>by simp at hb;subst hb;exact⟨V,aa.cQ.new _ (ad _)⟩
 clear_value m1
 have cI:=C.Gl
 have cK:aR.length=f.aR.length:=by rw[aH];exact ka _ _ _
 have cR:r.len=f.ak.length:=by have:=aa.fW.ak.len;simp at this;omega
 have cJ:t.len=f.aR.length:=by have:=aa.fW.aR.len;simp at this;omega
 have cx:=ha.len
 have bj:v.args.length<=4:=C.ly.1
 have cP:0<=f.pc/\f.pc<=100000:=by
  have cf:=C.F.pc;obtain⟨pq,_,ch,hP,_,_⟩:=C.I;rw[ch]at cf;have cQ:=hP.len;omega
 have e4:cO (f.pc+1)=f.pc+1:=aP V V
 have cF:b.length<=1000:=by
  have bP:=C.ok.depth;have b9:=C.ok.bu;have cc:=C.ok.dU;rw[C.fr]at bP;simp at bP;omega
 refine(vW (a9.ext S1.cQ.cv) (S1.cQ.box.cp 1) C.call (ha.ext S1.cQ.cv) V C.ly.2.2.2.1).mono ?_
 rintro _ m2 ⟨ts,lt,rfl,ba,_,bg,bZ,_⟩
 let⟨S2,t2⟩:=S1.ext bg
 have B2:=B1.to t2
 have cU:=Jg z v
 have bp:=ba.len
 have b0:bU z v≠[]->g ts.D=0:=λac=>by
  rcases bZ with w|w|w
  .subst w;simp at bp;exact absurd (List.length_eq_zero_iff.1 bp.symm) ac
  .rw[w];refine aa.cQ.jK _ (iI ha λh0=>?_);let⟨R,B⟩:=UD _ ac;have:=Cn B;rw[h0]at this;simp at this
  .exact aa.cQ.new _ V
 refine⟨t2.dJ B1,ts,lt,rfl,?_⟩
 refine dT (n:=(bU z v).length) V (λL Q=>ST q g Q k bK (IB d p (cg z) a aS j c) aS j c a.aS a.heap b {f with aR:=bD f.ak f.aR ((bU z v).take L)} r t h u/\To g m2 g Q) ⟨S2,dm.az _ S2.cQ.new⟩ ?_
 rintro L m3 b5 μ hk ⟨S3,t3⟩ bq
 have B3:=B2.to t3
 have ca:(bD f.ak f.aR ((bU z v).take L)).length=f.aR.length:=ka _ _ _
 refine dit (λh1=>?_) λh1=>?_
 .let⟨R,B⟩:=cG (bU z v) L
  have A:=C.KA R (aq B)
  obtain⟨_,_,_,G,I,_⟩:=S3.fW.iD
  have K:ap m3 ts (bU z v):=iT ba λac=>t3.eA _ (iI ba ac) (by rw[b0 ac];decide)
  have F:bD f.ak f.aR ((bU z v).take (L+1))=if 1000<=aG f.ak R then gT (bD f.ak f.aR ((bU z v).take L)) R (aG (bD f.ak f.aR ((bU z v).take L)) R -1)else bD f.ak f.aR ((bU z v).take L):=by
   rw[aU B,uZ];rfl
  refine⟨V,V,R,by simpa using K.aG B,r,G,A.1,V,_,(S3.Au (by show f.ak.length<=_;omega)).pH A.1 A.2,λT=>?_,λT=>?_⟩
  .simp only[oD,ar]at T
   have D:R<(bD f.ak f.aR ((bU z v).take L)).length:=V
   have M: -4<=aG (bD f.ak f.aR ((bU z v).take L)) R/\aG (bD f.ak f.aR ((bU z v).take L)) R<=999999:=by
    let⟨qq,aQ,be⟩:=kZ _ _ _ _ (oH A.1 D);have Y:=C.OX qq (aq aQ);have h8:=Mt f.ak ((bU z v).take L) f.aR 0 (λau hq=>(C.OX au hq).1) _ (fx A.1 D);have h9:((bU z v).take L).length<=4:=bF;omega
   have e5:cO (aG (bD f.ak f.aR ((bU z v).take L)) R -1)=aG (bD f.ak f.aR ((bU z v).take L)) R -1:=aP V V
   refine⟨t,I,A.1,V,_,(S3.JC (by show(bD _ _ _).length<=_;omega)).pH A.1 D,A.1,V,S3.fW.aR.Of A.1 D,?_⟩
   rw[e5]
   intro H
   let⟨y,t4⟩:=S3.pV A.1 D (aG (bD f.ak f.aR ((bU z v).take L)) R -1)
   refine⟨t4.dJ B3,bq V _ ⟨?_,t3.trans t4⟩⟩
   rw[F,an T];exact y
  .simp only[oD,bE]at T
   refine bq V _ ⟨?_,t3⟩
   rw[F,ae T];exact S3
 rw[bX V,<-aH]at S3
 clear bq ca hk h1 b0 ba bZ bp
 obtain⟨_,g1,_,_,_,_⟩:=S3.fW.iD
 refine⟨f.pc,g1,S3.fW.Vp,?_⟩
 rw[e4]
 intro H
 let⟨y,t4⟩:=S3.Oa (f.pc+1)
 have K:zE g H [m.size]:=B3.to t4
 have b2:eF [m.size] m3 H:=t4.dJ B3
 have Z:To g m g H:=((t1.trans t2).trans t3).trans t4
 clear t4
 replace y:ST q g H k bK (IB d p (cg z) a aS j c) aS j c a.aS a.heap b {f with aR:=aR,pc:=f.pc+1} r t h u:=y
 refine⟨b2,?_⟩
 clear b2 g1 S3 t3 B3 t2 B2 S2 bg b5 μ
 clear_value H
 have U:∀{M M':E},eF [m.size] M M'->∀am,af M' m.size am=af M m.size am:=λh am=>aE (h _ aL) am
 have hd:=C.dst
 have bl:f.ak.length=aR.length/\f.ba.length=aR.length/\aR.length<=2000:=V
 have ay:1<=v.args.length->0<=aG v.args 0/\aG v.args 0<f.ak.length:=λh1=>C.arg _ (fx V V)
 have ga:∀{Q},J q Q->1<=v.args.length->af Q ak.D (ak.off+Int.toNat (0:Int)*1)=some (vi (aG v.args 0)):=λhx h1=>(ha.ext hx).pH V V
 have gr:∀{g m bx aS j c lo ax t h u own' pc'},ST q g m k bK bx aS j c lo ax b {f with aR:=own',pc:=pc'} r t h u->∀{am:Int},0<=am->am<f.ak.length->af m r.D (r.off+Int.toNat am*1)=some (vi (aG f.ak am)):=λaa am h0 h1=>(aa.Au (by simp only[];omega)).pH h0 h1
 have ag:∀{g m bx aS j c lo ax t h u own' pc'},ST q g m k bK bx aS j c lo ax b {f with aR:=own',pc:=pc'} r t h u->af m c.D (c.off+b.length*6+3)=some (O.v r):=λaa=>aa.fW.iD.2.2.2.1
 have cr:∀r',r'∈v.args->aG f.ak r'<1000->gP (aG f.ak r'):=λr' cj aT=>by
  have bV:=C.arg r' cj;rcases C.F.Sb _ (fx bV.1 bV.2)with T|T
  .exact T
  .omega
 obtain⟨pq,_,_,_,_,hI⟩:=C.I
 have al:=hI.op
 clear hI
 have bt:∀{bs:Nat->Nat}{bY:O}{ax:List bN}{M:E}(SM:ST q bs M k bK (IB d p (cg z) {a with heap:=ax} aS bY c) aS bY c a.aS ax b {f with aR:=aR,pc:=f.pc+1} r t h u)(tM:To g m bs M)(BM:zE bs M [m.size])(F bb:Int)(s':St),s'={a with heap:=ax,ao:=b++[aY.put {f with aR:=aR,pc:=f.pc+1} v.dst F bb]}->
  aN cq 103 [vp c.D (c.off+b.length*6),vi v.dst,vi F,vi bb] M λ_ Q=>eF [m.size] M Q/\DW q g m k d p (cg z) s' Q:=λSM tM BM F bb s' w=>by
  refine(rB SM hd.1 (by show v.dst<f.ak.length;omega) (by show v.dst<aR.length;omega) F bb).mono ?_
  rintro _ Q ⟨S',t'⟩
  exact⟨t'.dJ BM,_,aS,_,c,by rw[w];exact S'.cQ,tM.trans t'⟩
 have bf:∀{M:E}(hx:J H M)(X:Int)(s':St),s'={a with ao:=b++[{f with aR:=aR,pc:=X}]}->
  fL M c.D (c.off+b.length*6+1) 1/\eF [m.size] M (ah M c.D (c.off+b.length*6+1) [.i X])/\DW q g m k d p (cg z) s' (ah M c.D (c.off+b.length*6+1) [.i X]):=λhx X s' w=>by
  let⟨SM,tM⟩:=y.ext hx
  let⟨S',t'⟩:=SM.Oa X
  exact⟨SM.fW.Vp,t'.dJ (K.to tM),g,aS,j,c,by rw[w];exact S'.cQ,(Z.trans tM).trans t'⟩
 refine⟨λw=>?_,λe0=>?_⟩
 .simp only[bR,aI]at w
  refine(JS y ha C.arg bj w (λe5=>C.ly.2.1 (Or.inl e5)) (λe0 e5=>C.ly.2.2.1 V) (λe0 R B=>cr R B (hM.nM V R B)) bl ⟨hd.1,by show v.dst<aR.length;omega⟩ V).mono ?_
  rintro _ W ⟨aF,aW,aB,aJ,L5,B⟩
  refine⟨B.dJ K,aF,aW,aB,aJ,?_,Z.trans B⟩
  have:fV z a b f v aR=(if v.op=0 then{a with ao:=b++[aY.put {f with aR:=aR,pc:=f.pc+1} v.dst v.bQ 0]}else if v.op=5 then{a with aS:=a.aS++[aG f.ak (aG v.args 0)],ao:=b++[aY.put {f with aR:=aR,pc:=f.pc+1} v.dst (aG f.ak (aG v.args 0)) 0]}else{a with ao:=b++[aY.put {f with aR:=aR,pc:=f.pc+1} v.dst (OY v.op (aG f.ak (aG v.args 0)) (aG f.ak (aG v.args 1))) 0]}):=by
   unfold fV;simp only[];by_cases A:v.op=0
   .rw[an A,an A]
   rw[ae A,ae A];by_cases D:v.op=5
   .rw[ae V,an D,an D]
   .rw[an V,ae D]
  rw[this];exact L5
 simp only[br,aj]at e0
 have bd:¬(v.op=1\/v.op=2\/v.op=3\/v.op=4):=V
 have ct:∀F∈f.ba,F≠0->1000<=F/\ix F<a.heap.length:=λF hw ac=>by
  obtain⟨h1,dd,b_,_⟩:=C.Lp F hw ac;exact⟨h1,aw b_⟩
 refine⟨λw=>?_,λe6=>?_⟩
 .simp only[aI]at w
  have h6:=C.ly.2.2.2.2.1 w
  refine(Gb y ha C.arg bj bl ⟨h6.1,h6.2.1⟩ V ct).mono ?_
  rintro _ W ⟨aF,aB,A,N,rfl,S,B,er,eo,ep,ec⟩
  refine⟨B.dJ K,_,rfl,U (B.dJ K) 1,(rB S hd.1 (by rw[er];show v.dst<f.ak.length;omega) (by rw[eo];show v.dst<aR.length;omega) (1000+A) 1).mono ?_⟩
  rintro _ D ⟨G,I⟩
  refine⟨I.dJ (K.to B),aF,aS,aB,c,?_,(Z.trans B).trans I⟩
  have Y:=ec f.pc
  have ab:N.pc=f.pc+1:=ep
  have h8:({N with pc:=f.pc+1}:aY)=N:=by rw[<-ab]
  rw[h8]at Y
  have:fV z a b f v aR=nB a b {f with aR:=aR} v v.bQ:=by
   unfold fV nB;simp only[];rw[ae V,ae bd,ae V,an w];rfl
  rw[this]
  have h9:nB a b {f with aR:=aR} v v.bQ={a with heap:=jg a.heap A ⟨1,v.bQ,cL f v.args⟩,ao:=b++[aY.put N v.dst (1000+A) 1]}:=Y
  rw[h9];exact G.cQ
 simp only[aj]at e6
 have F4:FP H c.D (c.off+b.length*6) {f with aR:=aR,pc:=f.pc+1} r t h:=y.fp ⟨by show f.ak.length<=_;omega,by show aR.length<=_;omega,by show f.ba.length<=_;omega⟩
 have b4:∀{bv:Value->E->Prop},(∀ws M,ap M ws (cL f v.args)->J H M->(cL f v.args≠[]->g ws.D=0)->bv (O.v ws) M)->aN cq 106 [vp c.D (c.off+b.length*6),O.v ak] H bv:=λhk=>by
  refine(vn F4.g3 F4.ak (ha.ext y.cQ.cv) C.arg V).mono ?_;rintro _ W ⟨ws,rfl,ow,ai⟩;have cn:(cL f v.args).length=v.args.length:=by simp[cL]
  have iw:ap W ws (cL f v.args):=ap.gD (l:=cL f v.args) ow V;refine hk ws W iw ai λac=>?_;rcases ow.D with w|w
  .subst w;have:=iw.len;simp at this;exact absurd (List.length_eq_zero_iff.1 this.symm) ac
  .exact y.cQ.new _ w
 have bg:(eS z.bo).length<=12:=by
  have:=rq C.ok.fy.nT.types z.bo.length;rw[mU _ _ (ad _)]at this;exact this
 have cz:0<=cg z/\cg z<=12:=by unfold cg;omega
 refine⟨λw=>?_,λbw=>?_⟩
 .simp only[aI]at w
  have ab:=C.ly.2.2.2.2.2.1 w
  refine⟨cg z,y.cQ.box.cp 2,b4 λws W iw ai _=>?_⟩
  let⟨S,B⟩:=y.ext ai
  have A:=K.to B
  have N:=B.dJ K
  have Y:cO (cg z+v.bQ)=cg z+v.bQ:=aP V V
  refine⟨N,ws,rfl,U N 2,ai.da (y.cQ.box.cp 2),U N 1,?_⟩
  rw[Y]
  refine(DE S (cg z+v.bQ) iw (by simp[cL];omega) V).mono ?_
  rintro _ D ⟨rfl,bz,bh,G,I⟩
  have aX:=I.dJ A
  refine⟨aX,_,rfl,U aX 1,bt (bY:=bh) (ax:=jg a.heap (dF a.heap) ⟨1,cg z+v.bQ,cL f v.args⟩) G ((Z.trans B).trans I) (A.to I) _ _ _ ?_⟩
  unfold fV;simp only[];rw[ae V,ae bd,ae V,ae e6,an w]
 simp only[aj]at bw
 have MZ:fV z a b f v aR=(
  if v.op=14 then{a with heap:=mT a.heap (aG f.ak (aG v.args 0)),ao:=b++[{f with aR:=gT aR (aG v.args 0) (aG aR (aG v.args 0)+1),pc:=f.pc+1}]}
  else if v.op=15 then{a with heap:=nv (ic a.heap [aG f.ak (aG v.args 0)]),ao:=b++[{f with aR:=aR,pc:=f.pc+1}]}
  else if v.op=16\/v.op=17 then tB a b {f with aR:=aR} v
  else if v.op=18 then{a with ao:=b++[aY.put {f with aR:=aR,pc:=f.pc+1} v.dst (aG f.ak (aG v.args 0)) (gK (aG f.ak (aG v.args 0)))]}
  else if v.op=19 then{a with ao:=b++[aY.put {f with aR:=aR,pc:=f.pc+1} v.dst (aG (aM a.heap (aG f.ak (aG v.args 0))).aF v.bQ) 0]}
  else if v.op=20 then{a with ao:=b++[{f with aR:=aR,pc:=if aG f.ak (aG v.args 0)=0 then v.bQ else f.pc+1}]}
  else if v.op=22 then{a with ao:=b++[{f with aR:=aR,pc:=v.bQ}]}
  else if v.op=21 then{a with ao:=b++[{f with aR:=aR,pc:=aG v.eM (tv (cy z.bo v.bQ) (aM a.heap (aG f.ak (aG v.args 0))).kj)}]}
  else if v.op=9\/v.op=24 then{a with bu:=a.bu+1,ao:=if v.op=24 then b++[bW z v.bQ f.dst (cL f v.args)]else b++[{f with aR:=aR,pc:=f.pc+1},bW z v.bQ v.dst (cL f v.args)]}
  else if v.op=11 then{a with bu:=a.bu+1,heap:=apart a.heap (aG f.ak (aG v.args 0)),ao:=b++[{f with aR:=aR,pc:=f.pc+1},bW z ((aM a.heap (aG f.ak (aG v.args 0))).kj -cg z) v.dst ((aM a.heap (aG f.ak (aG v.args 0))).aF++[aG f.ak (aG v.args 1)])]}
  else match b.getLast? with|none=>{a with cE:=0,value:=aG f.ak (aG v.args 0),ao:=[]}|some aK=>{a with ao:=b.dropLast++[aK.put f.dst (aG f.ak (aG v.args 0)) (gK (aG f.ak (aG v.args 0)))]}):=by
  unfold fV
  simp only[]
  rw[ae V,ae bd,ae V,ae e6,ae bw]
  by_cases a0:v.op=14
  .rw[an a0,an a0]
  rw[ae a0,ae a0]
  by_cases a1:v.op=15
  .rw[an a1,an a1]
  rw[ae a1,ae a1]
  by_cases a2:v.op=16\/v.op=17
  .rw[an a2,an a2];rfl
  rw[ae a2,ae a2]
  by_cases a3:v.op=18
  .rw[an a3,an a3]
  rw[ae a3,ae a3]
  by_cases a4:v.op=19
  .rw[an a4,an a4]
  rw[ae a4,ae a4]
  by_cases a5:v.op=20
  .rw[an a5,an a5]
  rw[ae a5,ae a5]
  by_cases a6:v.op=21
  .rw[an a6,ae V,an a6]
  rw[ae a6]
  by_cases a7:v.op=22
  .rw[an a7,an a7]
  rw[ae a7,ae a7,ae a6]
  by_cases bc:v.op=9
  .rw[an bc,an (Or.inl bc),ae V]
  rw[ae bc]
  by_cases a8:v.op=24
  .rw[an a8,an (Or.inr a8),an a8]
  rw[ae a8,ae (show¬(v.op=9\/v.op=24)by omega)]
  by_cases aZ:v.op=11
  .rw[an aZ,an aZ]
  rw[ae aZ,ae aZ]
  cases b.getLast?<;>rfl
 rw[MZ]
 clear MZ
 refine⟨λw=>?_,λbA=>?_⟩
 .simp only[aI]at w
  rw[an w]
  have h2:=C.ly.2.1 V
  have A:=ay V
  let⟨ab,bB⟩:=hM.Xa w
  let⟨Y,a_⟩:=bS ab
  have aT:=aw Y
  have bm:=y.cQ.heap.len
  have bk:=ab.1
  have az:ix (aG f.ak (aG v.args 0))=(aG f.ak (aG v.args 0) -1000).toNat:=rfl
  have e5:cO (aG f.ak (aG v.args 0) -1000)=aG f.ak (aG v.args 0) -1000:=aP V V
  have bi:cO ((aM a.heap (aG f.ak (aG v.args 0))).aQ+1)=(aM a.heap (aG f.ak (aG v.args 0))).aQ+1:=aP V V
  obtain⟨f0,k0,_⟩:=y.cQ.heap.cp Y
  refine⟨j,y.cQ.box.cp 8,r,ag y,V,V,_,ga y.cQ.cv V,A.1,V,_,gr y A.1 A.2,?_⟩
  rw[e5,<-az]
  refine⟨V,V,_,k0,V,V,y.cQ.heap.wr (o:=0) aT bn,?_⟩
  rw[bi]
  intro W
  let⟨bo,c5⟩:=y.cQ.heap.rG y.cQ.new Y ((aM a.heap (aG f.ak (aG v.args 0))).aQ+1)
  let⟨S,B⟩:=y.gE (c5.mono λL hk=>Or.inl hk) bo
  have aO:aG v.args 0<aR.length:=V
  have bC:0<=aG aR (aG v.args 0)/\aG aR (aG v.args 0)<=999999:=by
   refine⟨hM.nn _ (fx (l:=aR) A.1 aO),?_⟩;have hg:=oH (l:=aR) A.1 aO;rw[aH]at hg;let⟨qq,aQ,be⟩:=kZ _ _ _ _ hg;have:=(C.OX qq (aq aQ)).2;rw[<-aH]at be;omega
  have e7:cO (aG aR (aG v.args 0)+1)=aG aR (aG v.args 0)+1:=aP V V
  refine⟨B.dJ K,t,S.fW.iD.2.2.2.2.1,V,V,_,ga S.cQ.cv V,A.1,V,aG aR (aG v.args 0),(S.JC (by show aR.length<=_;omega)).pH A.1 aO,A.1,V,S.fW.aR.Of A.1 aO,?_⟩
  rw[e7]
  intro D
  let⟨G,I⟩:=S.pV A.1 aO (aG aR (aG v.args 0)+1)
  exact⟨I.dJ (K.to B),g,aS,j,c,G.cQ,(Z.trans B).trans I⟩
 simp only[aj]at bA
 rw[ae bA]
 refine⟨λw=>?_,λbB=>?_⟩
 .simp only[aI]at w
  rw[an w]
  have h2:=C.ly.2.1 V
  have A:=ay V
  have bC:v.args=[aG v.args 0]:=by
   cases hx:v.args with
   |nil=>rw[hx]at h2;simp at h2
   |cons R aO=>cases aO with
    |nil=>rfl
    |cons bi aO=>rw[hx]at h2;simp at h2
  have bi:=C.HE aH hM.nn
  have ht:bU z v=[aG v.args 0]:=by unfold bU;rw[an V];exact bC
  have bo:=bi.1
  rw[ht]at bo
  refine⟨j,y.cQ.box.cp 8,?_⟩
  intro W D
  let⟨G,I,kb⟩:=y.OP
  have R:zE (oA g H.size 5) D [m.size]:=K.to I
  replace G:ST q (oA g H.size 5) D k bK (IB d p (cg z) a aS j c) aS j c a.aS a.heap b {f with aR:=aR,pc:=f.pc+1} r t h u:=G
  replace I:To g H (oA g H.size 5) D:=I
  replace kb:cD D H.size eC [.s j]:=kb
  clear_value D
  refine⟨r,ag G,V,V,_,ga G.cQ.cv V,A.1,V,_,gr G A.1 A.2,(Gc G.cQ.heap G.cQ.new kb (fJ _ _ _) (W:=λP=>fA b P+de f.ak aR P) (bo.congr λP=>rfl) bi.2 V).mono ?_⟩
  rintro _ m7 ⟨bI,aO,bG,bH,c7⟩
  let⟨S7,t7⟩:=G.gE c7 bG
  refine⟨t7.dJ R,aO,bH.cp 0,S7.cQ.mw (i:=8) aL,?_⟩
  intro m8
  let⟨S8,t8⟩:=S7.jy 8 [.s aO]
  exact⟨t8.dJ (R.to t7),bI,aS,aO,c,S8.cQ,((Z.trans I).trans t7).trans t8⟩
 simp only[aj]at bB
 rw[ae bB]
 refine⟨λw=>?_,λb6=>?_⟩
 .simp only[bR,aI]at w
  rw[an w]
  refine(OR y ha C.arg ⟨C.ly.2.2.2.1 w,bj⟩ bl V (λau hq=>?_) (hM.NQ w).1 C.ok.heap (show f.pc+1=f.pc+1 from rfl)).mono ?_
  .refine⟨hM.nn au hq,?_⟩
   let⟨L,hk⟩:=List.mem_iff_getElem?.1 hq
   simp only[]at hk
   rw[aH]at hk
   let⟨qq,aQ,be⟩:=kZ _ _ _ _ hk
   have:=(C.OX qq (aq aQ)).2
   omega
  rintro _ W ⟨aF,aW,aB,aJ,L5,B⟩
  exact⟨B.dJ K,aF,aW,aB,aJ,L5,Z.trans B⟩
 simp only[br,aj]at b6
 rw[ae V]
 refine⟨λw=>?_,λbC=>?_⟩
 .simp only[aI]at w
  rw[an w]
  have h2:=C.ly.2.1 V
  have A:=ay V
  refine⟨r,ag y,V,V,_,ga y.cQ.cv V,A.1,V,_,gr y A.1 A.2,(mW _ _).mono ?_⟩
  rintro _ W ⟨rfl,ai⟩
  let⟨S,B⟩:=y.ext ai
  have N:=B.dJ K
  exact⟨N,_,rfl,U N 1,bt (ax:=a.heap) S (Z.trans B) (K.to B) _ _ _ rfl⟩
 simp only[aj]at bC
 rw[ae bC]
 refine⟨λw=>?_,λbG=>?_⟩
 .simp only[aI]at w
  rw[an w]
  have h2:=C.ly.2.1 V
  have A:=ay V
  let⟨ab,aO⟩:=hM.load w
  let⟨Y,a_⟩:=bS ab
  have aT:=aw Y
  have bm:=y.cQ.heap.len
  have bk:=ab.1
  have az:ix (aG f.ak (aG v.args 0))=(aG f.ak (aG v.args 0) -1000).toNat:=rfl
  have e5:cO (aG f.ak (aG v.args 0) -1000)=aG f.ak (aG v.args 0) -1000:=aP V V
  obtain⟨f0,_,_,k2,kf,_⟩:=y.cQ.heap.cp Y
  have aQ:=kf.len
  unfold mf at al
  rw[ae V,ae V,ae V,ae V,ae V,ae V,ae V,an w]at al
  refine⟨j,y.cQ.box.cp 8,r,ag y,V,V,_,ga y.cQ.cv V,A.1,V,_,gr y A.1 A.2,?_⟩
  rw[e5,<-az]
  exact⟨V,V,f0,k2,al.2.1,V,_,kf.pH al.2.1 aO,bt (ax:=a.heap) y Z K _ _ _ rfl⟩
 simp only[aj]at bG
 rw[ae bG]
 refine⟨λw=>?_,λbH=>?_⟩
 .simp only[aI]at w
  rw[an w]
  have h2:=C.ly.2.1 V
  have A:=ay V
  refine⟨r,ag y,V,V,_,ga y.cQ.cv V,A.1,V,_,gr y A.1 A.2,λT=>?_,λT=>?_⟩
  .simp at T;exact bf (J.az _) _ _ (by rw[an T])
  .simp at T;exact⟨g,aS,j,c,by rw[ae T];exact y.cQ,Z⟩
 simp only[aj]at bH
 rw[ae bH]
 refine⟨λw=>?_,λbJ=>?_⟩
 .simp only[aI]at w
  rw[an w]
  exact bf (J.az _) _ _ rfl
 simp only[aj]at bJ
 rw[ae bJ]
 refine⟨λw=>?_,λbI=>?_⟩
 .simp only[aI]at w
  rw[an w]
  have h2:=C.ly.2.1 V
  have A:=ay V
  let⟨ab,bo⟩:=hM.Fs w
  let⟨Y,a_⟩:=bS ab
  have aT:=aw Y
  have bm:=y.cQ.heap.len
  have bk:=ab.1
  have az:ix (aG f.ak (aG v.args 0))=(aG f.ak (aG v.args 0) -1000).toNat:=rfl
  have e5:cO (aG f.ak (aG v.args 0) -1000)=aG f.ak (aG v.args 0) -1000:=aP V V
  obtain⟨f0,_,k1,_⟩:=y.cQ.heap.cp Y
  unfold mf at al
  rw[ae V,ae V,ae V,ae V,ae V,ae V,ae V,ae V,ae V,ae V,an w]at al
  have bM:tv (cy z.bo v.bQ) (aM a.heap (aG f.ak (aG v.args 0))).kj<(cy z.bo v.bQ).length:=ud ⟨_,bo,aL⟩
  have bQ:=hj.len
  have bO:=al.2.2.1
  refine⟨j,y.cQ.box.cp 8,r,ag y,V,V,_,ga y.cQ.cv V,A.1,V,_,gr y A.1 A.2,?_⟩
  rw[e5,<-az]
  refine⟨V,V,_,k1,d,y.cQ.box.cp 0,(tx (a9.ext y.cQ.cv).bo C.ok.fy.nT.types v.bQ).mono ?_⟩
  rintro _ W ⟨cs,rfl,bL,ai⟩
  let⟨S,B⟩:=y.ext ai
  have N:=B.dJ K
  refine⟨N,cs,rfl,U N 5,(sC bL _).mono ?_⟩
  rintro _ D ⟨ri,rfl,aO,be⟩
  let⟨G,I⟩:=S.ext aO
  have aX:=I.dJ (K.to B)
  have bi:ri=tv (cy z.bo v.bQ) (aM a.heap (aG f.ak (aG v.args 0))).kj:=by
   rcases be with⟨_,aQ⟩|⟨_,he⟩
   .exact absurd bo aQ
   .exact he
  subst bi
  exact⟨aX,_,rfl,U aX 5,V,V,_,(hj.ext G.cQ.cv).pH V V,bf (ai.trans aO) _ _ rfl⟩
 simp only[aj]at bI
 rw[ae bI]
 have bO:0<=a.bu/\a.bu<=100000:=by
  have b9:=C.ok.bu;have cc:=C.ok.dU;omega
 have aX:=C.ok.fy
 refine⟨λw=>?_,λe9=>?_⟩
 .simp only[bR,aI]at w
  rw[an w]
  unfold mf at al
  rw[ae V,ae V,ae V,ae V,an w]at al
  let⟨au,be,aO,bM⟩:=al
  have ck:=(aX.dz au (aq aO)).ak
  have h3:=(aX.nT.dz au (aq aO)).1
  have cn:(cL f v.args).length=v.args.length:=by simp[cL]
  refine b4 λws W iw ai bi=>?_
  let⟨S,B⟩:=y.ext ai
  have N:=B.dJ K
  refine⟨N,ws,rfl,U N 0,U N 1,U N 2,U N 3,U N 4,U N 5,U N 2,(FX S a9 be aO V iw bi V v ak aV V bO).mono ?_⟩
  rintro _ D ⟨bz,bL,bh,aQ,L6,I⟩
  exact⟨I.dJ (K.to B),bz,bL,bh,aQ,L6,(Z.trans B).trans I⟩
 simp only[br,aj]at e9
 rw[ae V]
 refine⟨λw=>?_,λbz=>?_⟩
 .simp only[aI]at w
  rw[an w]
  have h2:=C.ly.2.2.1 V
  have A:=ay V
  have bi:0<=aG v.args 1/\aG v.args 1<f.ak.length:=C.arg _ (fx V V)
  let⟨ab,cm,cS,ce,cb,cB⟩:=hM.apply w
  let⟨Y,a_⟩:=bS ab
  have bM:=C.ok.heap.cell _ (aq Y)
  have cC:=bM.fl
  have bo:=(bM.oX a_).2
  have aT:=aw Y
  have bm:=y.cQ.heap.len
  have bk:=ab.1
  have az:ix (aG f.ak (aG v.args 0))=(aG f.ak (aG v.args 0) -1000).toNat:=rfl
  have e5:cO (aG f.ak (aG v.args 0) -1000)=aG f.ak (aG v.args 0) -1000:=aP V V
  let⟨f0,k0,k1,k2,kf,kr⟩:=y.cQ.heap.cp Y
  refine⟨r,ag y,V,V,_,ga y.cQ.cv V,A.1,V,_,gr y A.1 A.2,j,y.cQ.box.cp 8,?_⟩
  rw[e5,<-az]
  generalize hw:aG f.ak (aG v.args 0)=F at*
  have gv:∀{g m bx aS j c lo ax t h u own' pc'},ST q g m k bK bx aS j c lo ax b {f with aR:=own',pc:=pc'} r t h u->af m r.D (r.off+Int.toNat (aG v.args 1)*1)=some (vi (aG f.ak (aG v.args 1))):=λaa=>gr aa bi.1 bi.2
  generalize hv:aG f.ak (aG v.args 1)=X at*
  let⟨au,hq⟩:=cG z.cF (((aM a.heap F).kj -cg z).toNat)
  have ci:dO z ((aM a.heap F).kj -cg z)=au:=by simp[dO,hq]
  rw[ci]at ce cb
  have ck:=(aX.dz au (aq hq)).ak
  have h3:=(aX.nT.dz au (aq hq)).1
  refine⟨V,V,_,k0,_,k1,f0,k2,?_⟩
  intro W D
  have bh:J H D:=((J.az H).aK _).ah (ad _) _ _
  have s6:D.size=H.size+1:=by simp[D,W,av]
  let⟨G,I⟩:=y.ext bh
  clear_value D
  have R:zE g D [H.size,m.size]:=λP hb=>by
   simp at hb;rcases hb with rfl|rfl
   .exact⟨V,y.cQ.new _ (ad _)⟩
   .exact K.to I _ aL
  have be:∀{M},J D M->af M ak.D (ak.off+Int.toNat (1:Int)*1)=some (vi (aG v.args 1)):=λhx=>(ha.ext (G.cQ.cv.trans hx)).pH V V
  have ew:cO ((aM a.heap F).kj -cg z)=(aM a.heap F).kj -cg z:=aP V V
  have tail:∀{M:E}{es:O},J D M->gY D M aA 1 es (((aM a.heap F).aF++[X]).map Ce.i)->
   aN cq 113 [vp k 0,vi F,vb false] M λcv Q=>eF [H.size,m.size] M Q/\∃cu:Bool,cv=vb cu/\∃b3:Int,af Q k (0+2)=some (vi b3)/\
    aN cq 112 [vp k 0,vi (cO ((aM a.heap F).kj -b3)),O.v es,xv v ak aV] Q λ_ b1=>eF [H.size,m.size] Q b1/\DW q g m k d p (cg z) {a with bu:=a.bu+1,heap:=apart a.heap F,ao:=b++[{f with aR:=aR,pc:=f.pc+1},bW z ((aM a.heap F).kj -cg z) v.dst ((aM a.heap F).aF++[X])]} b1:=λ{M}{es} hx oe=>by
   let⟨SM,tM⟩:=G.ext hx
   have BM:=R.to tM
   have ie:ap M es ((aM a.heap F).aF++[X]):=ap.gD oe bF
   have bT:es.D<M.size:=iI ie aL
   have bQ:g es.D=0:=by
    rcases oe.D with w|w
    .subst w;have:=ie.len;simp at this
    .exact G.cQ.new _ w
   refine(DF SM ab false C.ok.heap V).mono ?_
   rintro _ m8 ⟨P,rfl,_,cV,cN,S8,t8⟩
   have hK:rV a.heap F false=apart a.heap F:=by rw[rV,ae (sx)]
   rw[hK]at S8
   have cp:ap m8 es ((aM a.heap F).aF++[X]):=iT ie λ_=>t8.eA _ bT (by rw[bQ];decide)
   refine⟨t8.dJ BM,P,rfl,cg z,S8.cQ.box.cp 2,?_⟩
   rw[ew]
   refine(FX (s:={a with heap:=apart a.heap F}) S8 a9 cm hq V cp (λ_=>by rw[t8.gW _ bT];exact bQ) bF v ak aV V bO).mono ?_
   rintro _ m9 ⟨cw,cs,cd,b7,L9,t9⟩
   refine⟨t9.dJ (BM.to t8),cw,cs,cd,b7,?_,(((Z.trans I).trans tM).trans t8).trans t9⟩
   rw[ae V]at L9
   exact L9
  refine⟨r,ag G,V,V,_,be (J.az _),bi.1,V,X,gv G,?_,?_⟩
  .refine(eN (kf.ext bh) V).mono ?_
   rintro _ m7 ⟨cl,rfl,oc,N⟩
   let⟨S7,t7⟩:=G.ext N
   have B7:=R.to t7
   refine⟨t7.dJ R,cl,rfl,N.da (gv G),N.da (be (J.az _)),aE (N.same m.size (R _ aL).1) 4,N.da (ag G),?_⟩
   intro m8
   have S:J m7 m8:=(J.az m7).aK _
   refine⟨aE (S.same H.size (B7 _ aL).1) 2,nQ oc N V λes m9 o9 aO=>⟨?_,tail aO o9⟩⟩
   intro P hb
   have aQ:=(R P hb).1
   rw[aO.same P aQ,S.same P (oh N.size),N.same P aQ]
  .intro m7
   have N:J D m7:=(J.az D).aK _
   have s7:m7.size=D.size+1:=by simp[m7]
   have jw:fR m7 D.size 0 [.i X]:=(cD.push D _ _).iD
   have b8:cD m7 D.size aA [.i X]:=cD.push D _ _
   clear_value m7
   let⟨S7,t7⟩:=G.ext N
   have B7:=R.to t7
   refine⟨aE (N.same H.size (R _ aL).1) 2,(eN (kf.ext (bh.trans N)) V).mono ?_⟩
   rintro _ m8 ⟨cl,rfl,oc,S⟩
   let⟨S8,t8⟩:=S7.ext S
   have cA:cl.len=(aM a.heap F).aF.length:=by have:=oc.len;simp at this;omega
   refine⟨t8.dJ B7,cl,rfl,S.da (gv S7),S.da (be N),aE (S.same m.size (B7 _ aL).1) 4,S.da (ag S7),?_⟩
   have bL:=N.trans S
   refine gY.append (zs:=[.i 0]) (x:=.mk D.size 0 1 1) (d:=[.i X]) (oc.cv V) bL rfl (b8.ext S).iD (by simp only[O.gH];omega) λes m9 o9 aO _ _ _ _=>⟨?_,tail aO (by simpa using o9)⟩
   intro P hb
   have aQ:=(R P hb).1
   rw[aO.same P aQ,bL.same P aQ]
 simp only[aj]at bz
 rw[ae bz]
 refine⟨λw=>?_,λI=>?_⟩
 .simp only[aI]at w
  have h2:=C.ly.2.1 V
  have A:=ay V
  refine⟨r,ag y,V,V,_,ga y.cQ.cv V,A.1,V,_,gr y A.1 A.2,(HU y V (aG f.ak (aG v.args 0)) (λaK hg=>?_)).mono ?_⟩
  .have ac:b≠[]:=λw=>by rw[w]at hg;simp at hg
   have D:b=b.dropLast++[aK]:=by
    rw[gG ac]at hg;simp at hg;rw[<-hg];exact(ft ac).symm
   have N:b.length=b.dropLast.length+1:=by
    have:=nY List.length D;simpa using this
   let⟨R,S,Y⟩:=C.ok.chain b.dropLast.length aK f (by rw[C.fr,D];simp) (by rw[C.fr,<-N];simp)
   have G:=C.ok.ao aK (by rw[C.fr,D];simp)
   have:=G.lr
   have:=G.lo
   exact⟨R,by show f.dst<_;omega,by show f.dst<_;omega⟩
  rintro _ W ⟨aF,aW,aB,aJ,L5,B⟩
  exact⟨B.dJ K,aF,aW,aB,aJ,L5,Z.trans B⟩
 simp only[aj]at I
 have:=C.Zq
 omega
end
end
section
section
variable{f:E}{e:Nat->Nat}{m:E}{b:Nat}{d p aS c a:O}{s:St}
def OS{h:cT}(L:vf f e m b bK (IB d p (cg h) s aS c a) aS c a s.aS s.heap s.ao)(z:fg f d p h)(u:cY h s)(aw:∀t∈s.ao,∀w∈t.ak,w<=9223372036854775807)(ay:s.heap.length<=900000000)(aB:s.aS.length<=900000000):
 aN cq 33 [vp b 0] m λ_ I=>DW f e m b d p (cg h) (nV h s) I:=by
 apply wa (b,0)
 simp -zeta only[aD,aC]
 refine⟨s.cE,L.box.cp 3,λy=>?_,λy=>?_⟩
 .simp at y
  rw[sY y]
  exact⟨e,aS,c,a,L,dm.az _ L.new⟩
 have G:s.cE=3:=by simpa using y
 let⟨k,g,r⟩:=u.split G
 have az:s.ao.getLast?=some g:=by rw[r];simp
 have au:s.ao.dropLast=k:=by rw[r];simp
 have C:zG h s k g (eI h g):=⟨u,G,r,rfl,aw⟩
 have aH:nV h s=(open Classical in if mX (eI h g).op/\s.bu=s.dU then{s with cE:=1}else if lp h s g (eI h g) (bD g.ak g.aR (bU h (eI h g)))then fV h s k g (eI h g) (bD g.ak g.aR (bU h (eI h g)))else{s with cE:=2}):=by
  unfold nV;rw[ae (by simpa using G),az,au]
 rw[aH]
 generalize eI h g=x at*
 have N:vf f e m b bK (IB d p (cg h) s aS c a) aS c a s.aS s.heap (k++[g]):=by rw[<-r];exact L
 let⟨aj,ai,W,ak,T⟩:=N.ao.fW
 have S:ST f e m b bK (IB d p (cg h) s aS c a) aS c a s.aS s.heap k g aj ai W ak:=⟨N,T⟩
 have aO:=T.yh
 have ab:=u.depth
 have aM:=u.bu
 have aT:=u.dU
 rw[r]at ab
 have aQ:k.length<=1000:=by simp at ab;omega
 have e1:cO ((a.len:Int) -1)=(k.length:Int):=by rw[aP V V];omega
 have e2:Int.toNat (k.length:Int)=k.length:=V
 have U:af m b 9=some (O.v a):=S.cQ.box.cp 9
 obtain⟨R,g1,_,_,_,_⟩:=T.iD
 let⟨aY,hq,aF,hP,aq,hI⟩:=C.I
 let⟨pa,pl,pc,aU,aW,ag,k0,k1,k2,k3,k4⟩:=z.cF.aG hq
 let⟨F,H,Y,hj,i0,i1,i2,i3,i4,i5⟩:=ag.aG aq
 have aX:=z.cF.len
 have aV:=ag.len
 have X:=C.F
 have aE:=X.fG
 have ac:=X.pc
 rw[aF]at ac
 have l:=S.cQ.cv
 refine⟨a,U,a,U,?_⟩
 rw[e1,e2]
 refine⟨V,V,p,S.cQ.box.cp 1,_,R,aE.1,V,pc,l.af k4,_,g1,ac.1,V,_,l.af i0,_,l.af i1,_,l.af i2,_,l.af i3,F,l.af i4,H,l.af i5,?_⟩
 intro m1
 have o:J m m1:=(J.az m).aK _
 refine⟨o.da (l.af i0),o.da (l.af i1),o.da (l.af i2),o.da (l.af i3),o.da (l.af i4),o.da (l.af i5),o.da g1,o.da (l.af k4),o.da R,o.da (S.cQ.box.cp 1),?_⟩
 intro n
 have aI:J m n:=o.ah (ad _) _ _
 have s2:n.size=m.size+1:=by simp[n,m1,av]
 let⟨j,t2⟩:=S.ext aI
 have A:zE e n [m.size]:=λP l=>by simp at l;subst l;exact⟨V,S.cQ.new _ (ad _)⟩
 clear_value n
 have aR:=C.Gl
 have aG:({s with ao:=k++[g]}:St)=s:=by rw[<-r]
 have ax:jA n a (k++[g]):=j.cQ.ao.Ap bF (λt w=>by
  have q:=u.ao t (by rw[r];exact w);obtain⟨Q,_,B,v,_⟩:=q.Jt u.fy;have D:=q.lr;have K:=q.lo;have M:=q.lh;rw[B]at D K M;have:=v.ak;omega)
 have am:RV n b 3 d p aS c a h s:=by
  have:RV n b 3 d p aS c a h {s with ao:=k++[g]}:=⟨z.ext j.cQ.cv,j.cQ.box.cp 0,j.cQ.box.cp 1,j.cQ.box.cp 3,j.cQ.box.cp 4,j.cQ.box.cp 5,j.cQ.box.cp 6,j.cQ.box.cp 7,j.cQ.box.cp 8,j.cQ.box.cp 9,j.cQ.aS.nM V,j.cQ.heap.cells V,ax⟩;rw[aG]at this;exact this
 have F2:FP n a.D (a.off+k.length*6) g aj ai W:=j.fp ⟨V,V,V⟩
 have jQ:¬(mX x.op/\s.bu=s.dU)->aN cq 59 [vp b 0,vp a.D (a.off+k.length*6),xv x F H] n λaJ v=>
  eF [m.size] n v/\∃K:Bool,aJ=vb K/\
  ((!K)=true->fL v b (0+3) 1/\let q:E:=ah v b (0+3) [.i (2:Int)]
   eF [m.size] v q/\DW f e m b d p (cg h) (open Classical in if mX x.op/\s.bu=s.dU then{s with cE:=1}else if lp h s g x (bD g.ak g.aR (bU h x))then fV h s k g x (bD g.ak g.aR (bU h x))else{s with cE:=2}) q)/\
  ((!K)=false->aN cq 60 [vp b 0,vp a.D (a.off+k.length*6),xv x F H] v λt q=>
   eF [m.size] v q/\DW f e m b d p (cg h) (open Classical in if mX x.op/\s.bu=s.dU then{s with cE:=1}else if lp h s g x (bD g.ak g.aR (bU h x))then fV h s k g x (bD g.ak g.aR (bU h x))else{s with cE:=2}) q):=λaA=>by
  refine(P2 am (j.cQ.box.cp 2) C F2 (Y.ext j.cQ.cv) V).mono ?_
  rintro _ m3 ⟨P,rfl,Z,al⟩
  let⟨B,t3⟩:=j.ext al
  have M:=A.to t3
  rw[ae aA]
  refine⟨t3.dJ A,P,rfl,λq=>?_,λq=>?_⟩
  .rw[ae (nb Z q)]
   refine⟨B.cQ.mw (i:=3) aL,?_⟩
   intro m4
   let⟨D,t⟩:=B.jy 3 [.i 2]
   refine⟨t.dJ M,e,aS,c,a,?_,(t2.trans t3).trans t⟩
   have:=D.cQ
   rw[<-r]at this
   exact this
  .have w:=yb Z q
   rw[an w]
   refine(Q7 C rfl w B z Y hj ay aB).mono ?_
   rintro _ m4 ⟨aK,ar,ap,aa,Q,t⟩
   exact⟨t.dJ M,aK,ar,ap,aa,Q,(t2.trans t3).trans t⟩
 refine⟨λQ I=>I=n/\(Q=true<->mX x.op),⟨λq=>⟨rfl,by simp at q;simp[mX,q]⟩,λq=>⟨λw=>⟨rfl,by simp at w;simp[mX,w]⟩,λw=>⟨rfl,by simp at q w;simp[mX,q,w]⟩⟩⟩,?_⟩
 rintro Q m3 ⟨rfl,aa⟩
 refine⟨λar=>⟨s.bu,j.cQ.box.cp 5,s.dU,j.cQ.box.cp 6,λw=>?_,λw=>?_⟩,λap=>?_⟩
 .simp at w
  refine⟨j.cQ.mw (i:=3) aL,?_⟩
  intro m4
  let⟨D,t⟩:=j.jy 3 [.i 1]
  refine⟨t.dJ A,e,aS,c,a,?_,t2.trans t⟩
  rw[an ⟨aa.1 ar,w⟩]
  have:=D.cQ
  rw[<-r]at this
  exact this
 .simp at w
  exact jQ λt=>w t.2
 .exact jQ λt=>by have:=aa.2 t.1;rw[ap]at this;simp at this
end
def Je(c:cT):∀(a b:Nat)(s:St),aB c (a+b) s=aB c b (aB c a s)
 |0,b,s=>by simp[aB]
 |a+1,b,s=>by rw[Nat.succ_add];simp only[aB];exact Je c a b _
end
end Go.Proofs.YtkoifinbblcbiaaGreat
section
namespace Go.Vc
def vT{m:E}{b o:Nat}{v:Value}(h:(af m b o).isSome=true):af (rE m b o v) b o=some v:=by
 unfold af at h⊢;simp only[rE,lJ,MF];cases d:m[b]? with
 |none=>rw[d]at h;simp at h
 |some f=>
  rw[d]at h;cases f with
  |cells c g i=>
   simp only[]at h;have e:o<c.size:=by
    rcases aW o c.size with a|a
    .exact a
    .rw[Jj a]at h;simp at h
   simp[e]
  |_=>simp at h
def Lb{m:E}{c o a b:Nat}{v:Value}(h:a≠c\/b≠o):af (rE m c o v) a b=af m a b:=by
 by_cases d:a=c
 .subst d;have e:b≠o:=by rcases h with h|h;exact absurd rfl h;exact h
  unfold af;simp only[rE,lJ,MF];cases d:m[a]? with
  |none=>rfl
  |some f=>
   cases f with
   |cells g i j=>simp[kG e]
   |_=>rfl
 .exact aE (LP _ _ _ _ d) _
def QY(m:E)(c o:Nat)(v:Value)(a d:Nat):vS (rE m c o v) a d=vS m a d:=by
 by_cases b:a=c
 .subst b;unfold vS;simp only[rE,lJ,MF];cases b:m[a]? with
  |none=>rfl
  |some e=>
   cases e with
   |cells f g h=>rfl
   |_=>rfl
 .unfold vS;rw[LP _ _ _ _ b]
structure Uy(m:E)(k:Int)(pos:List (Nat×Nat))(m':E):Prop where
 size:m.size<=m'.size
 D:∀b,b<m.size->(∀p∈pos,p.1≠b)->m'[b]? =m[b]?
 cell:∀b o,b<m.size->(b,o)∉pos->af m' b o=af m b o
 vS:∀b o,b<m.size->Vc.vS m' b o=Vc.vS m b o
 int:∀p∈pos,∃n,af m' p.1 p.2=some (vi n)
 val:pos.Nodup->∀(j:Nat)(p:Nat×Nat),pos[j]? =some p->af m' p.1 p.2=some (vi (k+j))
def Uy.nil{m c:E}(h:J m c)(k:Int):Uy m k [] c:=
 ⟨h.size,λb a _=>h.same b a,λb o a _=>aE (h.same b a) o,λb o a=>by unfold Vc.vS;rw[h.same b a],aL,aL⟩
def Uy.lM{m:E}{b o:Nat}(h:(af m b o).isSome=true)(k:Int):Uy m k [(b,o)] (ah m b o [.i k]):=by
 refine⟨uf (av _ _ _ _).symm,λc f d=>bd _ _ _ _ λe=>d (b,o) aL e.symm,λc q f d=>?_,λc q f=>QY _ _ _ _ _ _,λp a=>?_,λ_ j p a=>?_⟩
 .refine Lb ?_;by_cases e:c=b
  .right;intro g;subst e;subst g;simp at d
  .exact Or.inl e
 .simp at a;subst a;exact⟨k,vT h⟩
 .cases j with
  |zero=>
   simp at a;subst a;have e:k+((0:Nat):Int)=k:=V;rw[e];exact vT h
  |succ j=>simp at a
def Uy.trans{m l n:E}{k:Int}{e p2:List (Nat×Nat)}(h:Uy m k e l)(g:Uy l (k+e.length) p2 n):Uy m k (e++p2) n:=by
 have v:=h.size;refine⟨bI h.size g.size,λc f b=>?_,λc o f b=>?_,λc o f=>?_,λp a=>?_,λhd j p a=>?_⟩
 .rw[g.D c V λp a=>b p (eD _ a),h.D c f λp a=>b p (bJ _ a)]
 .rw[g.cell c o V λa=>b (eD _ a),h.cell c o f λa=>b (bJ _ a)]
 .rw[g.vS c o V,h.vS c o f]
 .by_cases i:p∈p2
  .exact g.int p i
  .have d:p∈e:=by rcases List.mem_append.1 a with d|d;exact d;exact absurd d i
   let⟨q,b⟩:=h.int p d;exact⟨q,by rw[g.cell p.1 p.2 (lB b) i];exact b⟩
 .let⟨i,r,s⟩:=List.nodup_append.1 hd;by_cases u:j<e.length
  .rw[ax u]at a;have d:p∈e:=iA a;let⟨q,b⟩:=h.int p d;rw[g.cell p.1 p.2 (lB b) λt=>s p d p t rfl];exact h.val i j p a
  .rw[aJ V]at a;have:=g.val r _ p a;have d:k+(e.length:Int)+((j -e.length:Nat):Int)=k+j:=V;rw[d]at this;exact this
inductive Uz where
 |nil
 |int (r:Uz)
 |sl (e r:Uz)
def Uz.size:Uz->Nat
 | .nil=>0
 | .int r=>r.size+1
 | .sl _ r=>r.size+1
inductive Tj where
 |iD (r:Uz)
 |Im (e:Uz) (n:Nat)
inductive vQ(m:E):Tj->Nat->Nat->List (Nat×Nat)->Prop where
 |nil (b o:Nat):vQ m (.iD .nil) b o []
 |int {b o:Nat} {r:Uz} {p:List (Nat×Nat)} {n:Int} (h:af m b o=some (vi n)) (hf:Vc.vS m b o=false) (hr:vQ m (.iD r) b (o+1) p):vQ m (.iD (.int r)) b o ((b,o)::p)
 |sl {b o:Nat} {e r:Uz} {p1 p2:List (Nat×Nat)} {s:O} (h:af m b o=some (O.v s)) (hl:s.len<=9223372036854775807) (he:vQ m (.Im e s.len) s.D s.off p1) (hr:vQ m (.iD r) b (o+1) p2):vQ m (.iD (.sl e r)) b o (p1++p2)
 |zero (e:Uz) (b o:Nat):vQ m (.Im e 0) b o []
 |succ {b o n:Nat} {e:Uz} {p1 p2:List (Nat×Nat)} (he:vQ m (.iD e) b o p1) (hr:vQ m (.Im e n) b (o+e.size) p2):vQ m (.Im e (n+1)) b o (p1++p2)
def vQ.nM{m:E}{K:Tj}{f o:Nat}{e:List (Nat×Nat)}(h:vQ m K f o e):∀p∈e,∃n,af m p.1 p.2=some (vi n):=by
 induction h with
 |nil=>simp
 |int h c d b=>
  intro p a;rcases List.mem_cons.1 a with rfl|a
  .exact⟨_,h⟩
  .exact b p a
 |sl h i g d b c=>
  intro p a;rcases List.mem_append.1 a with a|a
  .exact b p a
  .exact c p a
 |zero=>simp
 |succ g d b c=>
  intro p a;rcases List.mem_append.1 a with a|a
  .exact b p a
  .exact c p a
def vQ.lt{m:E}{K:Tj}{b o:Nat}{a:List (Nat×Nat)}(h:vQ m K b o a):∀p∈a,p.1<m.size:=λp d=>let⟨_,c⟩:=h.nM p d;lB c
def Uq(n:Int)(s:O):vi n≠O.v s:=by cases s<;>simp[vi,O.v]
def vQ.aaa{m j:E}{u:Int}{q:List (Nat×Nat)}(g:Uy m u q j)(t:∀p∈q,∃n,af m p.1 p.2=some (vi n)){K:Tj}{b o:Nat}{k:List (Nat×Nat)}(h:vQ m K b o k):vQ j K b o k:=by
 induction h with
 |nil=>exact .nil _ _
 | @int b o v p n h d i e=>
  have a:=lB h;by_cases c:(b,o)∈q
  .let⟨l,f⟩:=g.int _ c;exact .int f (by rw[g.vS b o a];exact d) e
  .exact .int (by rw[g.cell b o a c];exact h) (by rw[g.vS b o a];exact d) e
 | @sl b o w v x p2 l h r p i d e=>
  have a:=lB h;refine .sl (s:=l) ?_ r d e;rw[g.cell b o a λc=>?_]
  .exact h
  .let⟨n,f⟩:=t _ c;rw[h]at f;exact Uq n l (jN f).symm
 |zero=>exact .zero _ _ _
 |succ p i d e=>exact .succ d e
def vQ.ext{m a:E}(d:J m a){K:Tj}{b o:Nat}{c:List (Nat×Nat)}(h:vQ m K b o c):vQ a K b o c:=h.aaa (Uy.nil d 0) aL
end Go.Vc
namespace Go.Proofs.YtkoifinbblcbiaaGreat
open Go.Vc
end Go.Proofs.YtkoifinbblcbiaaGreat
end
namespace Go.Proofs.YtkoifinbblcbiaaGreat
open Go.Vc
section
section
variable{m:E}{s t:O}{l r:List Int}
def kQ(f:ap m s l)(i:ap m t r):dt cq 16 [O.v s,O.v t] m (l=r):=by
 apply Al;have o:=f.len;have v:=i.len;refine⟨λh=>bV (λe=>?_) (J.az _),λh=>?_⟩
 .subst e;simp at h;omega
 .have u:l.length=r.length:=by simp at h;omega
  refine dT (n:=l.length) (o▸f.gV) (λk a=>J m a/\l.take k=r.take k) ⟨J.az _,aL⟩ ?_;rintro k w I μ q ⟨b,d⟩ p
  refine dit (λj=>?_) λj=>?_
  .let⟨y,g⟩:=cG l k;let⟨z,c⟩:=cG r k;refine⟨V,V,y,by simpa using b.af (f.aG g),V,V,z,by simpa using b.af (i.aG c),λa=>bV (λe=>?_) b,λa=>p V _ ⟨b,?_⟩⟩
   .subst e;rw[g]at c;simp at c a;exact a c
   .simp at a;rw[aU g,aU c,d,a]
  .rw[bX V,bX V]at d;exact iR d b
end
section
variable{m:E}{b P:Nat}{a:O}{S:List Nat}
def Jm.ext{a:E}{dp:O}(h:Jm m dp)(x:J m a):Jm a dp:=⟨h.1,λk d=>let⟨v,b,c,g⟩:=h.2 k d;⟨v,b,c,x.af g⟩⟩
end
end
section
variable{n b:Nat}{f:Nat->Int}{d:cT}{s:St}
def sZ(n:Nat)(f:Nat->Int):List Int:=(List.range n).map f
def ou(n:Nat)(f:Nat->Int):(sZ n f).length=n:=by simp[sZ]
def uY(h:b<n):(sZ n f)[b]? =some (f b):=by
 unfold sZ;rw[cJ,Nq h];rfl
def fD{g:Nat->Int}(h:∀b,b<n->f b=g b):sZ n f=sZ n g:=by
 unfold sZ;exact List.map_congr_left λb a=>h b (List.mem_range.1 a)
def Se(v:Int):(sZ n f).set b v=sZ n (λa=>if a=b then v else f a):=by
 apply gX;intro i;by_cases a:i<n
 .rw[uY a];by_cases e:b=i
  .subst e;rw[dx (by rw[ou];exact a),an rfl]
  .rw[cr e,uY a,ae (λh=>e h.symm)]
 .rw[cN (by rw[dZ,ou];omega),cN (by rw[ou];omega)]
def SR(n:Nat):sZ n (λ_=>0)=dj n:=by
 unfold sZ dj;rw[List.map_const'];simp
structure Oo(h:List bN):Prop where
 jB:nZ h
 cells:∀c∈h,oE h c
 eu:∀(b:Nat)(c:bN),h[b]? =some c->0<c.aQ->eu h b<=c.aQ
 MH:Ta h
structure HJ(h:List bN)(f:aY):Prop where
 dz:∀(k:Nat)(w o:Int),f.ak[k]? =some w->f.aR[k]? =some o->(gP w\/1000<=w)/\(0<=o/\o<=999999)/\(0<o->gA h w)
structure KC(d:cT)(h:List bN)(prev:Option aY)(f:aY):Prop where
 fG:0<=f.fG/\f.fG<d.cF.length
 pc:0<=f.pc/\f.pc<(dO d f.fG).dp.length
 lr:(f.ak.length:Int)=(dO d f.fG).ak
 lo:(f.aR.length:Int)=(dO d f.fG).ak
 lh:(f.ba.length:Int)=(dO d f.fG).ak
 ak:HJ h f
 first:prev=none->f.dst=0
 next:∀p,prev=some p->0<=f.dst/\f.dst<p.aR.length/\aG p.aR f.dst=0
def nD(a:List aY):Nat->Option aY
 |0=>none
 |k+1=>a[k]?
structure Oq(h:List bN)(fs:List aY):Prop where
 cL:∀f∈fs,∀w∈f.ba,w=0\/(1000<=w/\ix w<h.length)
 lg:∀(i:Nat)(c:bN),h[i]? =some c->c.aQ<0->dG fs i=1
 nm:∀(i:Nat)(c:bN),h[i]? =some c->0<=c.aQ->dG fs i=0
structure Nw(d:cT)(s:St):Prop where
 fy:ns d
 cE:0<=s.cE/\s.cE<=3
 done:s.cE=0<->s.ao=[]
 value:gP s.value
 ua:s.value≠0->s.cE=0
 dU:0<=s.dU/\s.dU<=40
 bu:0<=s.bu/\s.bu<=s.dU
 depth:(s.ao.length:Int)<=s.bu+1
 aS:∀n∈s.aS,gP n
 heap:Oo s.heap
 ao:∀(k:Nat)(f:aY),s.ao[k]? =some f->KC d s.heap (nD s.ao k) f
 ba:Oq s.heap s.ao
 QV:∀(b:Nat)(c:bN),s.heap[b]? =some c->0<c.aQ->c.aQ=eu s.heap b+fA s.ao b
def P8:∀{c:List aY}{b:Nat},0<fA c b->∃f∈c,0<de f.ak f.aR b
 |[],b,h=>by simp[fA]at h
 |f::c,b,h=>by
  simp only[fA]at h;by_cases d:0<de f.ak f.aR b
  .exact⟨f,aL,d⟩
  .let⟨g,e,i⟩:=P8 (c:=c) (b:=b) V;exact⟨g,by simp[e],i⟩
def NS:∀{ak aR:List Int}{b:Nat},0<de ak aR b->∃(k:Nat)(o:Int),ak[k]? =some (1000+(b:Int))/\aR[k]? =some o/\0<o
 |[],aR,b,h=>by simp[de]at h
 |_::_,[],b,h=>by simp[de]at h
 |r::i,o::g,b,h=>by
  simp only[de]at h;by_cases a:r=1000+(b:Int)/\0<o
  .exact⟨0,o,by simp[a.1],rfl,a.2⟩
  .have:0<de i g b:=by
    split at h
    .rename_i e;have:¬0<o:=λc=>a ⟨e,c⟩;omega
    .omega
   let⟨k,f,c,d,e⟩:=NS this;exact⟨k+1,f,by simpa using c,by simpa using d,e⟩
def Vh{a:List aY}{f:aY}(c:f∈a)(d:∀g∈a,0<=de g.ak g.aR b):de f.ak f.aR b<=fA a b:=by
 induction a with
 |nil=>simp at c
 |cons g a i=>
  have m:0<=fA a b:=by
   clear i c;induction a with
   |nil=>simp[fA]
   |cons q a j=>
    have k:=d q aL;have l:=j (λx e=>d x (by simp at e⊢;rcases e with h|h;exact Or.inl h;exact Or.inr (Or.inr h)));simp only[fA];omega
  simp only[fA];rcases List.mem_cons.1 c with rfl|c
  .omega
  .have:=i c λx e=>d x (by simp[e]);have:=d g aL;omega
def Ue{a:List aY}(c:∀g∈a,0<=de g.ak g.aR b):0<=fA a b:=by
 induction a with
 |nil=>simp[fA]
 |cons q a e=>
  have f:=c q aL;have g:=e λx d=>c x (by simp[d]);simp only[fA];omega
def P1{a:List aY}{f:aY}(c:f∈a):eB f.ba b<=dG a b:=by
 induction a with
 |nil=>simp at c
 |cons g a d=>
  simp only[dG];rcases List.mem_cons.1 c with rfl|c
  .have:=vU a b;omega
  .have:=d c;have:=iF g.ba b;omega
def Lj{a:List aY}(h:∀f∈a,∀w∈f.ba,w≠1000+(b:Int)):dG a b=0:=by
 induction a with
 |nil=>rfl
 |cons g a e=>
  simp only[dG];rw[e λf c=>h f (by simp[c]),nP λd=>h g aL _ d rfl];rfl
def wi{a:List aY}{f:aY}(h:f∈a):∃k:Nat,a[k]? =some f:=List.mem_iff_getElem?.1 h
def Mq(h:Nw d s):cY d s:=by
 have r:∀f∈s.ao,∃p,KC d s.heap p f:=λf c=>let⟨k,g⟩:=wi c;⟨_,h.ao k f g⟩;have z:∀b,∀j∈s.ao,0<=de j.ak j.aR b:=λb j t=>by
  let⟨p,a⟩:=r j t;refine tC (λo l=>?_) b;let⟨k,g⟩:=List.mem_iff_getElem?.1 l;have u:=aw g;have e:=a.lr;have q:=a.lo;let⟨w,i⟩:=cG j.ak k;exact(a.ak.dz k w o i g).2.1.1
 refine⟨h.fy,h.cE,h.done,h.value,h.ua,h.dU,h.bu,h.depth,h.aS,⟨h.heap.cells,h.heap.MH,h.QV,λb=>Ue (z b),λb y=>?_⟩,h.heap.jB,λf c=>?_,λf c=>(h.ao 0 f c).first rfl,λk f j c t=>(h.ao (k+1) j t).next f c,λb⟨m,n,v⟩=>h.ba.lg b m n v,λb g=>?_⟩
 .let⟨f,c,a⟩:=P8 y;let⟨k,o,e,q,x⟩:=NS a;let⟨p,a⟩:=r f c;have:=((a.ak.dz k _ o e q).2.2 x).2;rwa[lC]at this
 .let⟨p,a⟩:=r f c;refine⟨a.fG,a.pc,a.lr,a.lo,a.lh,λw i=>?_,λk o w l i=>?_,λw i=>?_⟩
  .let⟨k,g⟩:=List.mem_iff_getElem?.1 i;have u:=aw g;have e:=a.lr;have q:=a.lo;let⟨o,l⟩:=cG f.aR k;exact(a.ak.dz k w o g l).1
  .have:=a.ak.dz k w o i l;exact⟨this.2.1.1,λx=>(this.2.2 x).1⟩
  .rcases h.ba.cL f c w i with e|e
   .exact Or.inl e
   .exact Or.inr e.1
 .rcases aW b s.heap.length with u|A
  .let⟨m,n⟩:=dB u;refine h.ba.nm b m n (Int.not_lt.1 λv=>g ⟨m,n,v⟩)
  .refine Lj λf c w i x=>?_;rcases h.ba.cL f c w i with e|e
   .omega
   .have:=e.2;rw[x,lC]at this;omega
def OD(h:cY d s):Nw d s:=by
 have E:∀b,∀p∈s.ao,0<=de p.ak p.aR b:=λb p D=>tC (h.ao p D).P7 b;have y:∀f∈s.ao,∀(k:Nat)(w o:Int),f.ak[k]? =some w->f.aR[k]? =some o->0<o->gA s.heap w/\o<=999999:=λf g k w o i n q=>by
  have m:=((h.ao f g).aR k o w n i).2 q;have A:=iv m;have B:=LC (h.ao f g).P7 i n (d:=ix w) A.symm;have C:=Vh g (E (ix w));have x:=h.heap.lv (ix w) V;let⟨j,e,c⟩:=x;have I:=h.heap.ex _ j e c;have J:=rf s.heap (ix w);have K:=(h.heap.cell j (aq e)).hi;exact⟨⟨m,j,e,c⟩,V⟩
 refine⟨h.fy,h.cE,h.done,h.value,h.ua,h.dU,h.bu,h.depth,h.aS,⟨h.jB,h.heap.cell,λb j e c=>?_,h.heap.MH⟩,λk f g=>?_,⟨λf g w i=>?_,λu j e z=>h.lg u ⟨j,e,z⟩,λu j e z=>h.nm u λ⟨H,r,L⟩=>?_⟩,h.heap.ex⟩
 .have:=h.heap.ex b j e c;have:=h.heap.nn b;omega
 .have t:=aq g;have F:=h.ao f t;refine⟨F.fG,F.pc,F.lr,F.lo,F.lh,⟨λv w o i n=>⟨F.Sb w (aq i),⟨(F.aR v o w n i).1,?_⟩,λc=>(y f t v w o i n c).1⟩⟩,λc=>?_,λG c=>?_⟩
  .rcases Jk 0 o with q|q
   .exact(y f t v w o i n q).2
   .omega
  .cases k with
   |zero=>exact h.first f g
   |succ k=>
    simp only[nD]at c;have:=aw g;rw[List.getElem?_eq_none_iff]at c;omega
  .cases k with
   |zero=>simp[nD]at c
   |succ k=>exact h.chain k G f c g
 .rcases(h.ao f g).ba w i with m|m
  .exact Or.inl m
  .refine Or.inr ⟨m,Nat.lt_of_not_le λt=>?_⟩;have B:=h.nm (ix w) λ⟨j,e,_⟩=>by have:=aw e;omega
   have C:=P1 g (b:=ix w);have x:=uL (l:=f.ba) (f:=ix w) (by rw[iv m];exact i);omega
 .rw[e]at r;simp at r;subst r;omega
end
section
variable{M d:E}{b e a:Nat}{f:Nat->Int}{h:List bN}{w:Int}{c:bN}
def HB(w:Int):Prop:=-9223372036854775808<=w/\w<=9223372036854775807
def Sn(h:List bN):Prop:=∀c∈h,∀w∈c.aF,HB w
def tV(B:cD M b aA ((sZ e f).map Ce.i))(h:a<e):af M b a=some (vi (f a)):=by
 rw[B.cp a,cJ,uY h];rfl
def Jf(B:cD M b aA ((sZ e f).map Ce.i))(a:Nat)(v:Int):cD (ah M b a [.i v]) b aA ((sZ e (λx=>if x=a then v else f x)).map Ce.i):=by
 have:=B.ah (m:=M) (o:=a) (r:=[.i v]);rw[Ay,Se]at this;exact this
def Od(B:cD M b aA ((sZ e f).map Ce.i))(h:a<e):fL M b a 1:=B.fL (by simp[ou];omega)
def Ph(B:cD M b aA ((sZ e f).map Ce.i))(h:e<=9223372036854775807):ap M (.mk b 0 e e) (sZ e f):=
 ⟨by simp[ou],ad _,h,λk x a=>⟨[.i x],rfl,λi c d=>by
  have g:k<e:=by have:=aw a;rwa[ou]at this
  rw[uY g]at a;simp at a;cases i with
  |zero=>simp at d;subst d;have:=tV B g;rw[a]at this;simpa[Ce.v]using this
  |succ i=>simp at d⟩⟩
def Mr(M:E)(e:Nat):cD (M.push (.cells (bt (mK [.i (0:Int)] e)) aA)) M.size aA ((sZ e (λ_=>0)).map Ce.i):=by
 rw[ub,SR];exact cD.push M _ _
def Tq(f:Nat)(b:List Value)(d:E)(l:List Int):Prop:=aN cq f b d λv a=>∃s,v=O.v s/\ap a s l/\J d a
def Mh{f:O}(i:cW d f h)(k:HB w):dt cq 177 [O.v f,vi w] d (qJ h w):=by
 apply GY;refine(aX _ _ _ _).then λb m e c=>⟨b,rfl,λa=>iR (Or.inl (e.1 a)) c,λa=>?_⟩;refine(jb (cW.ext c i) k).then λb2 n g l=>⟨b2,rfl,eU ?_ (c.trans l)⟩;rw[g];exact⟨λh=>Or.inr h,λh=>h.resolve_left λj=>fb e a j⟩
def Hh{C f:O}(F:cW d C h)(x:ap d f c.aF)(G:∀w∈c.aF,HB w):dt cq 115 [O.v C,.agg #[vi c.aQ,vi c.kj,O.v f]] d (oE h c):=by
 apply BD;simp -zeta only[aD,aC];intro o;have e:J d o:=(J.az d).aK _;have P:o.size=d.size+1:=by simp[o]
 clear_value o;have B:=x.len;refine⟨λt=>bV (λa=>by have:=a.fl;simp at t;omega) e,λt=>?_⟩;have y:c.aF.length<=3:=by simp at t;omega
 have q:∀b∈[d.size],b<o.size:=bF;refine(aX _ _ _ _).aH (J.az _) q λb N A i _=>⟨b,rfl,λu=>bV (λa=>nb A u ⟨a.lo,a.hi⟩) (e.trans i),λu=>?_⟩;have m:=yb A u;refine⟨λv=>?_,λv=>?_⟩
 .have k:c.aQ<1:=by simpa using v
  refine⟨λl=>?_,λl=>bV (λa=>by simp at l;exact l (a.wZ k).1) (e.trans i)⟩;have s:c.kj=0:=by simpa using l
  refine(mj (x.ext (e.trans i))).aH i q λb3 H z j _=>⟨b3,rfl,λg=>?_,λg=>bV (λa=>fb z g (a.wZ k).2.1) ((e.trans i).trans j)⟩;have D:=z.1 g;refine⟨λr=>iR ⟨y,m.1,m.2,λ_=>⟨s,D,λp=>by simp at r;omega⟩,λp=>V⟩ ((e.trans i).trans j),λr=>eU ?_ ((e.trans i).trans j)⟩;have E:c.aQ=0:=by simp at r;omega
  constructor
  .intro p;have:c.aF=[]:=by simp at p;exact List.length_eq_zero_iff.1 V
   exact⟨y,m.1,m.2,λ_=>⟨s,D,λ_=>this⟩,λp=>V⟩
  .intro a;have:=(a.wZ k).2.2 E;rw[this]at B;simp[B]
 .have k:0<c.aQ:=by simp at v;omega
  refine dT (n:=c.aF.length) V (λz p=>J o p/\∀w∈c.aF.take z,qJ h w) ⟨i,aL⟩ ?_;rintro z H L μ M ⟨j,D⟩ I
  refine dit (λl=>?_) λl=>?_
  .let⟨w,r⟩:=cG c.aF z;refine⟨V,V,w,by simpa using(x.ext (e.trans j)).aG r,(Mh (cW.ext (e.trans j) F) (G w (aq r))).aH j q λb4 E p K s=>⟨b4,rfl,λg=>bV (λa=>nb p g ((a.oX k).1 w (aq r))) (e.trans s),λg=>I V E ⟨s,bB r D (yb p g)⟩⟩⟩
  .refine(aX _ _ _ _).aH j q λb4 E p K s=>⟨b4,rfl,eU ?_ (e.trans s)⟩;rw[p];exact⟨λr=>⟨y,m.1,m.2,λg=>V,λ_=>⟨db V D,r⟩⟩,λa=>(a.oX k).2⟩
def N3{i:Nat}(b:h[i]? =some c)(a:Nat):eu (h.take (i+1)) a=eu (h.take i) a+eB c.aF a:=by
 rw[aU b,uO];simp[eu]
def rD{l:List Int}{k:Nat}(b:l[k]? =some w)(a:Nat):eB (l.take (k+1)) a=eB (l.take k) a+(if w=1000+(a:Int)then 1 else 0):=by
 rw[aU b,lU];simp[eB]
def Cf:∀(h:List bN)(a:Nat),(∀c∈h,c.aF.length<=3)->eu h a<=3*h.length
 |[],a,_=>by simp[eu]
 |c::h,a,b=>by
  have e:=Cf h a λd hd=>b d (by simp[hd]);have f:=kC c.aF a;have g:=b c aL;simp only[eu,aZ];omega
def Jo(b:∀c∈h,oE h c)(d:c∈h)(e:w∈c.aF):gA h w\/w<1000:=by
 by_cases f:0<c.aQ
 .rcases((b c d).oX f).1 w e with a|a
  .have:=a.2;exact Or.inr V
  .exact Or.inl a
 .have:=((b c d).wZ V).2.1 w e;exact Or.inr V
def Bt{B:O}(z:cW d B h)(u:∀c∈h,oE h c)(R:Sn h)(af:h.length<=1000000000):Tq 116 [O.v B] d (sZ h.length (eu h)):=by
 apply G8;have hl:=z.len;have en:Int.toNat (B.len:Int)=h.length:=V;rw[en];refine⟨V,V,V,V,?_⟩;intro C;have Y:J d C:=(J.az d).aK _;have K:cD C d.size aA ((sZ h.length (λ_=>0)).map Ce.i):=Mr d _;clear_value C;have Q:∀i,∀c∈h.take i,c.aF.length<=3:=λi c S=>(u c (dA S)).fl;refine dT (n:=h.length) V (λi e=>J d e/\cD e d.size aA ((sZ h.length (λa=>eu (h.take i) a)).map Ce.i)) ⟨Y,by simpa[eu]using K⟩ ?_;rintro i m2 Z μ hi ⟨I,p⟩ X
 refine dit (λN=>?_) λN=>?_
 .let⟨c,v⟩:=cG h i;have x:=aq v;have ab:=(u c x).fl;refine dT (n:=c.aF.length) V (λk e=>J d e/\cD e d.size aA ((sZ h.length (λa=>eu (h.take i) a+eB (c.aF.take k) a)).map Ce.i)) ⟨I,by simpa[eB]using p⟩ ?_;rintro k U aa ν hk ⟨m,o⟩ H;obtain⟨f,y,_,_,s⟩:=(cW.ext m z).aG v;have ac:=y.len;refine⟨V,V,f,by simpa using s,dit (λP=>?_) λP=>?_⟩
  .let⟨w,l⟩:=cG c.aF k;have G:=aq l;have F:=R c x w G;refine⟨V,V,f,by simpa using s,V,V,w,by simpa using y.aG l,(jb (cW.ext m z) F).then λb W j e=>⟨b,rfl,λt=>?_,λt=>?_⟩⟩
   .have A:=j.1 t;have E:=aw (bS A).1;have L:cO (w -1000)=(ix w:Nat):=by have:=A.1;have:=F.2;unfold ix;rw[aP V V];omega
    have M:Int.toNat ((ix w:Nat):Int)=ix w:=V;have q:=o.ext e;have q1:=Cf (h.take i) (ix w) (Q i);have q2:=kC (c.aF.take k) (ix w);have q3:=rf (h.take i) (ix w);have q4:=iF (c.aF.take k) (ix w);have q5:(h.take i).length<=h.length:=bF;have q6:(c.aF.take k).length<=3:=bF;refine⟨V,V,f,by simpa using e.af s,V,V,w,by simpa using(y.ext e).aG l,?_⟩;rw[L,M];simp only[O.gH,O.jD,O.mZ,bT,eR];refine⟨V,V,_,tV q E,V,V,Od q E,?_⟩;rw[show cO (eu (h.take i) (ix w)+eB (c.aF.take k) (ix w)+1)=eu (h.take i) (ix w)+eB (c.aF.take k) (ix w)+1 from aP V V];refine H V _ ⟨(m.trans e).ah (ad _) _ _,?_⟩;have D:=Jf q (ix w) (eu (h.take i) (ix w)+eB (c.aF.take k) (ix w)+1);rw[fD (g:=λa=>eu (h.take i) a+eB (c.aF.take (k+1)) a)]at D
    .exact D
    .intro b j;rw[rD l];by_cases r:b=ix w
     .subst r;rw[an rfl,an (iv A.1).symm];omega
     .rw[ae r,ae (λT=>r (by rw[T,lC]))];omega
   .refine H V W ⟨m.trans e,?_⟩;have q:w<1000:=(Jo u x G).resolve_left (fb j t);rw[fD (g:=λa=>eu (h.take i) a+eB (c.aF.take k) a)]
    .exact o.ext e
    .intro b j;rw[rD l,ae V];omega
  .refine X V U ⟨m,?_⟩
   have e:c.aF.take k=c.aF:=bX V;rw[e]at o;rw[fD (g:=λa=>eu (h.take i) a+eB c.aF a)]
   .exact o
   .intro b j;exact N3 v b
 .rw[bX V]at p;exact⟨_,rfl,Ph p V,I⟩
end
section
variable{a b c:Nat}{h:List bN}{M g:E}{e:Nat->Bool}
def mH(mk:Nat->Bool):Nat->Nat
 |0=>0
 |c+1=>mH mk c+(if mk c=true then 1 else 0)
def FL(mk:Nat->Bool):∀c,mH mk c<=c
 |0=>ad _
 |c+1=>by have:=FL mk c;simp only[mH];split<;>omega
def KQ{mk:Nat->Bool}:∀{c:Nat},(mH mk c=c<->∀i,i<c->mk i=true)
 |0=>by simp[mH]
 |c+1=>by
  have g:=FL mk c;have a:=KQ (mk:=mk) (c:=c);simp only[mH];constructor
  .intro h i f;have b:mk c=true:=by by_cases e:mk c=true;exact e;rw[ae e]at h;omega
   rw[an b]at h;rcases aW i c with d|d
   .exact a.1 V i d
   .have:i=c:=V;rw[this];exact b
  .intro h;rw[an (h c V),a.2 λi f=>h i V]
def KR{mk a:Nat->Bool}:∀{c:Nat},(∀i,i<c->mk i=a i)->mH mk c=mH a c
 |0,_=>rfl
 |c+1,h=>by simp only[mH];rw[KR λi b=>h i V,h c V]
def mO(mk:Nat->Bool)(a:Nat):Nat->Bool:=λx=>if x=a then true else mk x
def Cj(mk:Nat->Bool)(a:Nat):mO mk a a=true:=an rfl
def pU{mk:Nat->Bool}(h:b≠a):mO mk a b=mk b:=ae h
def Ck{mk:Nat->Bool}(h:mk b=true):mO mk a b=true:=by unfold mO;split;rfl;exact h
def zU{mk:Nat->Bool}{a:Nat}(h:mk a=false):∀{c:Nat},a<c->mH (mO mk a) c=mH mk c+1
 |0,d=>absurd d (eX _)
 |c+1,d=>by
  simp only[mH];rcases aW a c with b|b
  .rw[zU h b,pU V];omega
  .have e:a=c:=V;subst e;rw[Cj,an rfl,h,ae aL,KR (a:=mk) λi f=>pU V]
def Nv(h:List bN)(mk:Nat->Bool):Prop:=
 ∃t:Nat->Nat,(∀j,mk j=true->t j<=mH mk h.length)/\∀(i:Nat)(c:bN),h[i]? =some c->mk i=true->∀w∈c.aF,1000<=w->mk (ix w)=true/\t (ix w)<t i
def Pv(mk:Nat->Bool)(a:List Int):Prop:=∀w∈a,1000<=w->mk (ix w)=true
def Nv.set{mk:Nat->Bool}(u:Nv h mk){j:bN}(l:h[a]? =some j)(e:mk a=false)(s:Pv mk j.aF):Nv h (mO mk a):=by
 let⟨z,k,r⟩:=u;have t:=aw l;have q:=zU e t;refine⟨λx=>if x=a then mH mk h.length+1 else z x,λv n=>?_,λi d hd m w p o=>?_⟩
 .simp only[q];split
  .omega
  .rename_i b;rw[pU b]at n;have:=k v n;omega
 .by_cases f:i=a
  .subst f;rw[l]at hd;simp at hd;subst hd;have b:=s w p o;have g:ix w≠i:=λc=>by rw[c,e]at b;cases b
   simp only[an,ae g];exact⟨Ck b,oh (k _ b)⟩
  .rw[pU f]at m;let⟨b,y⟩:=r i d hd m w p o;have g:ix w≠a:=λc=>by rw[c,e]at b;cases b
   simp only[ae f,ae g];exact⟨Ck b,y⟩
def SE{mk:Nat->Bool}(n:Nv h mk)(m:∀a∈h,∀w∈a.aF,1000<=w->ix w<h.length)(k:∀(i:Nat)(a:bN),h[i]? =some a->mk i=true\/¬Pv mk a.aF):
 mH mk h.length=h.length<->Ta h:=by
 rw[KQ]
 constructor
 .intro g
  obtain⟨t,_,f⟩:=n
  exact⟨t,λi a b w e d=>(f i a b (g i (aw b)) w e d).2⟩
 .rintro⟨j,o⟩
  have q:∀(c i:Nat),j i<c->i<h.length->mk i=true:=by
   intro c;induction c with
   |zero=>intro i g;omega
   |succ c p=>
    intro i g l;let⟨a,b⟩:=dB l;rcases k i a b with f|f
    .exact f
    .refine absurd (λw e d=>?_) f;exact p (ix w) (oh (o i a b w e d)) (m a (aq b) w e d)
  exactλi g=>q (j i+1) i V g
def zR(c:Nat)(e:Nat->Bool):List Ce:=(List.range c).map λa=>Ce.t (e a)
def FH(c:Nat)(e:Nat->Bool):(zR c e).length=c:=by simp[zR]
def Ry(B:cD M b ta (zR c e))(h:a<c):af M b a=some (vb (e a)):=by
 rw[B.cp a];unfold zR;rw[cJ,Nq h];rfl
def UT(B:cD M b ta (zR c e))(a:Nat):cD (ah M b a [.t true]) b ta (zR c (mO e a)):=by
 have j:=B.ah (m:=M) (o:=a) (r:=[.t true]);have d:je (zR c e) a [.t true]=zR c (mO e a):=by
  apply gX;intro i;simp only[je];by_cases k:i<c
  .have f:∀g:Nat->Bool,(zR c g)[i]? =some (.t (g i)):=λg=>by unfold zR;rw[cJ,Nq k];rfl
   rw[f];by_cases d:a=i
   .subst d;rw[dx (by rw[FH];exact k),Cj]
   .rw[cr d,f,pU (λh=>d h.symm)]
  .rw[cN (by rw[dZ,FH];omega),cN (by rw[FH];omega)]
 rw[d]at j;exact j
def US(M:E)(c:Nat):cD (M.push (.cells (bt (mK [.t false] c)) ta)) M.size ta (zR c (λ_=>false)):=by
 have e:mK [.t false] c=zR c (λ_=>false):=by
  unfold mK zR;rw[List.map_const'];simp
 rw[e];exact cD.push M _ _
def Gw{mk:Nat->Bool}{e:O}{d:List Int}(B:cD g b ta (zR c mk))(k:ap g e d)(p:∀w∈d,HB w)(E:∀w∈d,1000<=w->ix w<c):
 dt cq 178 [O.v (.mk b 0 c c),O.v e] g (Pv mk d):=by
 apply AE
 have H:=k.len
 have K:=k.gV
 refine dT (n:=d.length) V (λr a=>J g a/\Pv mk (d.take r)) ⟨J.az _,λw p=>by simp at p⟩ ?_
 rintro r L I μ G ⟨f,l⟩ x
 refine dit (λA=>?_) λA=>?_
 .let⟨w,h⟩:=cG d r
  have q:=aq h
  have C:=p w q
  refine⟨V,V,w,by simpa using(k.ext f).aG h,(dV _ _).then λF u t i=>⟨F,rfl,λo=>?_,λo=>?_⟩⟩
  .have s:=t.1 o
   have D:=E w q s
   have y:cO (w -1000)=(ix w:Nat):=by have:=C.2;unfold ix;rw[aP V V];omega
   have z:Int.toNat ((ix w:Nat):Int)=ix w:=V
   refine⟨V,V,w,by simpa using(k.ext (f.trans i)).aG h,?_⟩
   rw[y,z]
   simp only[O.gH,O.jD,O.mZ,bT,eR]
   refine⟨V,V,mk (ix w),Ry (B.ext (f.trans i)) D,λj=>bV (λa=>by rw[a w q s]at j;cases j) (f.trans i),λj=>x V u ⟨f.trans i,?_⟩⟩
   rw[Pv,aU h]
   intro v a m
   rcases List.mem_append.1 a with a|a
   .exact l v a m
   .simp at a;subst a;simpa using j
  .refine x V u ⟨f.trans i,?_⟩
   rw[Pv,aU h]
   intro v a m
   rcases List.mem_append.1 a with a|a
   .exact l v a m
   .simp at a;subst a;exact absurd m (fb t o)
 .rw[bX V]at l
  exact iR l f
def GQ{y:O}(L:cW g y h)(hc:∀d∈h,oE h d)(aa:Sn h)(ae:h.length<=1000000000):dt cq 117 [O.v y] g (Ta h):=by
 apply Bb;have hl:=L.len;have en:Int.toNat (y.len:Int)=h.length:=V;rw[en];have N:∀d∈h,∀G∈d.aF,1000<=G->ix G<h.length:=λd hm G hw y=>by
  rcases Jo hc hm hw with o|o
  .exact aw (bS o).1
  .omega
 refine⟨V,V,V,V,?_⟩;intro F;have x1:J g F:=(J.az g).aK _;have W:cD F g.size ta (zR h.length (λ_=>false)):=US g _;clear_value F;have X:mH (λ_=>false) h.length=0:=by
  generalize h.length=c;induction c with
  |zero=>rfl
  |succ c a=>simp[mH,a]
 refine Sg (γ:=(Nat->Bool)×Bool) (λf R hO u=>hO=f.2/\R=(mH f.1 h.length:Nat)/\J g u/\cD u g.size ta (zR h.length f.1)/\Nv h f.1/\(hO=false->∀(i:Nat)(d:bN),h[i]? =some d->f.1 i=true\/¬Pv f.1 d.aF))
  (λf=>if f.2=true then h.length -mH f.1 h.length+1 else 0) (λ_=>false,true) ⟨rfl,by rw[X];rfl,x1,W,⟨λ_=>0,aL,aL⟩,aL⟩ ?_
 rintro⟨mk,hO⟩ R af m2 ab μ ⟨rfl,rfl,U,H,B,I⟩ T
 simp only at H B I T⊢
 refine⟨λo=>?_,λo=>?_⟩
 .refine⟨λS z i u=>∃(k:Nat)(a:Nat->Bool),i=k/\k<=h.length/\S=(mH a h.length:Nat)/\J g u/\cD u g.size ta (zR h.length a)/\Nv h a/\mH mk h.length<=mH a h.length/\(z=true->mH mk h.length<mH a h.length)/\
   (z=false->∀(i:Nat)(d:bN),i<k->h[i]? =some d->a i=true\/¬Pv a d.aF),λ_ _ i _=>((h.length:Int) -i).toNat,⟨0,mk,rfl,dH _,rfl,U,H,B,ad _,aL,λ_ i d j=>absurd j (eX _)⟩,?_⟩
  rintro S z i m3 ⟨k,a,rfl,hk,rfl,v,n,w,Q,E,E3⟩;have ac:=FL a h.length;have nV:∀{P:Prop},k<h.length->(cO ((k:Int)+1)=((k+1:Nat):Int)->((h.length:Int) -((k+1:Nat):Int)).toNat<((h.length:Int) -(k:Int)).toNat->P)->P:=λM hP=>hP (jW M V) (DI M);refine dit (λh2=>?_) λh2=>?_
  .have p:k<h.length:=V;let⟨d,s⟩:=dB p;have Y:Int.toNat (k:Int)=k:=V;simp only[O.gH,O.jD,O.mZ,bT,eR,Y];refine⟨V,V,a k,Ry n p,λC=>?_,λC=>?_⟩
   .have x:a k=false:=by simpa using C
    obtain⟨e,hf,_,_,Z⟩:=(cW.ext v L).aG s;refine⟨V,V,e,Z,(Gw n hf (aa d (aq s)) (N d (aq s))).then λb m4 K A=>⟨b,rfl,λD=>?_,λD=>?_⟩⟩
    .have j:=n.ext A;have m:=zU x p;refine⟨V,V,j.fL (by rw[FH];omega),?_⟩;refine nV p λr t=>?_;rw[r,show cO ((mH a h.length:Nat)+1:Int)=((mH (mO a k) h.length:Nat):Int)by rw[m,aP V V];omega];exact⟨⟨k+1,mO a k,rfl,V,rfl,(v.trans A).ah (ad _) _ _,UT j k,w.set s x (K.1 D),V,λ_=>V,λl=>by cases l⟩,t⟩
    .refine nV p λr t=>?_;rw[r];refine⟨⟨k+1,a,rfl,V,rfl,v.trans A,n.ext A,w,Q,E,λl j q hj hd=>?_⟩,t⟩;rcases aW j k with m|m
     .exact E3 l j q m hd
     .have:j=k:=V;subst this;rw[s]at hd;simp at hd;subst hd;exact Or.inr (fb K D)
   .have x:a k=true:=by simpa using C
    refine nV p λr t=>?_;rw[r];refine⟨⟨k+1,a,rfl,V,rfl,v,n,w,Q,E,λl j q hj hd=>?_⟩,t⟩;rcases aW j k with m|m
    .exact E3 l j q m hd
    .have:j=k:=V;subst this;exact Or.inl x
  .refine T (a,z) _ _ m3 ⟨rfl,rfl,v,n,w,λl j q hd=>E3 l j q (oh (aw hd)) hd⟩ ?_
   simp only[o,MF];split
   .rename_i m;have:=E m;omega
   .omega
 .refine eU ?_ U;rw[<-SE B N (I o)];simp;omega
def Hj{r:O}(m:cW g r h)(C:Sn h)(K:h.length<=1000000000):dt cq 62 [O.v r] g (Oo h):=by
 apply BG;have Z:=m.len;refine⟨λs=>s=g/\nZ h,⟨λq=>?_,λq=>⟨rfl,λc d=>?_⟩⟩,?_⟩
 .simp at q;rw[aP V V];let⟨c,d⟩:=cG h (h.length -1);obtain⟨e,B,g1,_,_⟩:=m.aG d;have i:Int.toNat ((r.len:Int) -1)=h.length -1:=V;rw[i];refine⟨V,V,c.aQ,g1,λj=>bV (λl=>l.jB c d (by simpa using j)) (J.az _),λj=>⟨rfl,λo hd=>?_⟩⟩;rw[d]at hd;simp at hd;subst hd;simpa using j
 .have:=aw d;simp at q;omega
 rintro S ⟨rfl,R⟩;refine dT (n:=h.length) V (λi s=>J S s/\∀c∈h.take i,oE h c) ⟨J.az _,aL⟩ ?_;rintro i m2 W μ l ⟨p,G⟩ T
 refine dit (λq=>?_) λq=>?_
 .let⟨c,d⟩:=cG h i;let⟨e,B,g1,g2,E⟩:=(cW.ext p m).aG d;refine⟨V,V,c.aQ,by simpa using g1,c.kj,by simpa using g2,e,by simpa using E,(Hh (cW.ext p m) B (C c (aq d))).then λb D u w=>⟨b,rfl,λj=>bV (λl=>nb u j (l.cells c (aq d))) (p.trans w),λj=>T V D ⟨p.trans w,bB d G (yb u j)⟩⟩⟩
 have A:=db V G;refine(Bt (cW.ext p m) A C K).mono ?_;rintro _ D ⟨U,rfl,I,w⟩;have Q:=I.len;rw[ou]at Q;refine⟨U,rfl,dT (n:=h.length) V (λi s=>J D s/\∀(a:Nat)(c:bN),a<i->h[a]? =some c->0<c.aQ->eu h a<=c.aQ) ⟨J.az _,λa c t=>absurd t (eX _)⟩ ?_⟩;rintro i L X ν Y ⟨x,H⟩ M;have v:=(p.trans w).trans x;refine dit (λj=>?_) λj=>?_
 .let⟨c,d⟩:=cG h i;let⟨e,B,g1,g2,E⟩:=(cW.ext v m).aG d;have hO:(0<c.aQ->eu h i<=c.aQ)->∀(a:Nat)(o:bN),a<i+1->h[a]? =some o->0<o.aQ->eu h a<=o.aQ:=λP a o t hd=>by
   rcases aW a i with F|F
   .exact H a o F hd
   .have:a=i:=V;subst this;rw[d]at hd;simp at hd;subst hd;exact P
  refine⟨V,V,c.aQ,by simpa using g1,λy=>?_,λy=>M V L ⟨x,hO λz=>by simp at y;omega⟩⟩;have N:=(I.ext x).aG (k:=i) (uY (f:=eu h) (show i<h.length by omega));refine⟨V,V,c.aQ,by simpa using g1,V,V,eu h i,by simpa using N,λz=>bV (λl=>?_) v,λz=>M V L ⟨x,hO λ_=>by simp at z;omega⟩⟩;have:=l.eu i c d (by simpa using y);simp at z;omega
 .refine(GQ (cW.ext v m) A C K).then λb y u o=>⟨b,rfl,eU ?_ (v.trans o)⟩;rw[u];exact⟨λt=>⟨R,A,λa c d r=>H a c (oh (aw d)) d r,t⟩,λl=>l.MH⟩
end
section
variable{m:E}{f:aY}
structure gC(m:E)(aS hp fr:O)(s:St):Prop where
 aS:ap m aS s.aS
 heap:cW m hp s.heap
 ao:jA m fr s.ao
def gC.ext{m d:E}{aS c b:O}{s:St}(h:gC m aS c b s)(a:J m d):gC d aS c b s:=⟨h.aS.ext a,cW.ext a h.heap,jA.ext a h.ao⟩
def Sk(f:aY):Prop:=(∀w∈f.ak,HB w)/\(∀w∈f.aR,HB w)/\(∀w∈f.ba,HB w)
structure yE(s:St):Prop where
 bu:HB s.bu
 heap:Sn s.heap
 ao:∀f∈s.ao,Sk f
 lh:s.heap.length<=10000000
 lf:s.ao.length<=10000000
 lr:∀f∈s.ao,f.ak.length<=10000000/\f.aR.length<=10000000/\f.ba.length<=10000000
def MD(s:St)(aS b a:O):Value:=.agg #[vi s.cE,vi s.value,vi s.bu,vi s.dU,O.v aS,O.v b,O.v a]
def Ew{f:O}{l:List Int}(c:ap m f l):dt cq 61 [O.v f] m (∀a∈l,gP a):=by
 apply yW;have s:=c.len;have t:=c.gV;refine dT (n:=l.length) V (λk b=>J m b/\∀a∈l.take k,gP a) ⟨J.az _,aL⟩ ?_;rintro k u I μ r ⟨a,g⟩ q
 refine dit (λj=>?_) λj=>?_
 .let⟨w,d⟩:=cG l k;exact⟨V,V,w,by simpa using(c.ext a).aG d,(aX _ _ _ _).then λi p e h=>⟨i,rfl,λb=>bV (λo=>nb e b (o w (aq d))) (a.trans h),λb=>q V p ⟨a.trans h,bB d g (yb e b)⟩⟩⟩
 .exact iR (db V g) a
def Rv(h:List bN)(w o:Int):Prop:=(gP w\/1000<=w)/\(0<=o/\o<=999999)/\(0<o->gA h w)
def Hl{x z o aa:O}{h:List bN}(hh:cW m x h)(C:ap m z f.ak)(R:ap m o f.aR)(ad:f.aR.length=f.ak.length)(ab:Sk f)(Y A Z:Int):
 dt cq 118 [O.v x,.agg #[vi Y,vi A,vi Z,O.v z,O.v o,O.v aa]] m (HJ h f):=by
 apply BL
 simp -zeta only[aD,aC]
 intro b
 have p:J m b:=(J.az m).aK _
 have s1:b.size=m.size+1:=by simp[b]
 clear_value b
 have v:∀A∈[m.size],A<b.size:=bF
 have ah:=C.len
 have ag:=R.len
 have ae:=C.gV
 refine dT (n:=f.ak.length) V (λk m'=>J b m'/\∀(j:Nat)(w o:Int),j<k->f.ak[j]? =some w->f.aR[j]? =some o->Rv h w o) ⟨J.az _,λj w o P=>absurd P (eX _)⟩ ?_
 rintro k U K μ Q ⟨I,S⟩ W
 refine dit (λh1=>?_) λh1=>?_
 .let⟨w,i⟩:=cG f.ak k
  let⟨r,B⟩:=cG f.aR k
  have gw:∀{M:E},J b M->af M z.D (z.off+Int.toNat (k:Int)*1)=some (vi w):=λD=>by simpa using(C.ext (p.trans D)).aG i
  have L:∀{M:E},J b M->af M o.D (o.off+Int.toNat (k:Int)*1)=some (vi r):=λD=>by simpa using(R.ext (p.trans D)).aG B
  have hO:Rv h w r->∀(j:Nat)(w o:Int),j<k+1->f.ak[j]? =some w->f.aR[j]? =some o->Rv h w o:=λa j w' G P y q=>by
   rcases aW j k with N|N
   .exact S j w' G N y q
   .have:j=k:=V;subst this;rw[i]at y;rw[B]at q;simp at y q;subst y;subst q;exact a
  have F:¬Rv h w r->¬HJ h f:=λa Q=>a (Q.dz k w r i B)
  have jQ:∀{M:E},J b M->(gP w\/1000<=w)->(0:Int)<=(k:Int)/\(k:Int)<(o.len:Int)/\∃X:Int,af M o.D (o.off+Int.toNat (k:Int)*1)=some (vi X)/\
   aN cq 41 [vi X,vi (0:Int),vi (999999:Int)] M λac l=>eF [m.size] M l/\∃H:Bool,ac=vb H/\
   ((!H)=true->∃c:Bool,vb false=.bool c/\(c=true<->HJ h f)/\J m l)/\
   ((!H)=false->(0:Int)<=(k:Int)/\(k:Int)<(o.len:Int)/\∃g:Int,af l o.D (o.off+Int.toNat (k:Int)*1)=some (vi g)/\
   ((decide (g>(0:Int)))=true->aN cq 130 [O.v x,vi w] l λs d=>eF [m.size] l d/\∃e:Bool,s=vb e/\
    ((!e)=true->∃c:Bool,vb false=.bool c/\(c=true<->HJ h f)/\J m d)/\((!e)=false->K (cO ((k:Int)+(1:Int))) d/\μ (cO ((k:Int)+(1:Int))) d<μ k U))/\
   ((decide (g>(0:Int)))=false->K (cO ((k:Int)+(1:Int))) l/\μ (cO ((k:Int)+(1:Int))) l<μ k U)):=λ{M} xM hi=>by
   refine⟨V,V,r,L xM,(aX _ _ _ _).aH xM v λb3 m3 s x3 c=>⟨b3,rfl,λd=>bV (F λa=>nb s d a.2.1) (p.trans c),λd=>?_⟩⟩
   have T:=yb s d
   refine⟨V,V,r,L c,λe=>?_,λe=>W V _ ⟨c,hO ⟨hi,T,λx=>by simp at e;omega⟩⟩⟩
   refine(jb (cW.ext (p.trans c) hh) (ab.1 w (aq i))).aH c v λb4 m4 t x4 u=>⟨b4,rfl,λg=>bV (F λa=>nb t g (a.2.2 (by simpa using e))) (p.trans u),λg=>W V _ ⟨u,hO ⟨hi,T,λ_=>yb t g⟩⟩⟩
  refine⟨V,V,w,gw I,(aX _ _ _ _).aH I v λb3 m3 s x3 c=>⟨b3,rfl,λd=>?_,λd=>jQ c (Or.inl (yb s d))⟩⟩
  refine(dV _ _).aH c v λb4 m4 t x4 u=>⟨b4,rfl,λe=>bV (F λa=>?_) (p.trans u),λe=>jQ u (Or.inr (yb t e))⟩
  rcases a.1 with g|g
  .exact nb s d g
  .exact nb t e g
 .exact iR ⟨λj w G i q=>S j w G (oh (aw i)) i q⟩ (p.trans I)
def Ff{Q p aS c R:O}{l:cT}{s:St}(I:fg m Q p l)(i:gC m aS c R s)(ah:yE s){k:Nat}(H:s.ao[k]? =some f):
 dt cq 63 [.agg #[O.v Q,O.v p],MD s aS c R,vi k] m (KC l s.heap (nD s.ao k) f):=by
 apply zq
 simp -zeta only[aD,aC]
 intro t b
 have x2:J m b:=((J.az m).aK _).aK _
 have s1:t.size=m.size+1:=by simp[t]
 have s2:b.size=m.size+2:=by simp[b,s1]
 clear_value b
 have au:=i.ao.len
 have ax:=i.ao.gV
 have az:=aw H
 have aJ:=I.cF.len
 have aL:=I.cF.gV
 let⟨an,am,af,hr,Z,he,g0,g1,g2,g3,g4,g5⟩:=(i.ext x2).ao.aG H
 have ek:Int.toNat (k:Int)=k:=V
 rw[ek]
 refine⟨V,V,_,g0,_,g1,_,g2,an,g3,am,g4,af,g5,?_⟩
 intro m3 n
 have x4:J b n:=((J.az b).aK _).ah (ad _) _ _
 have s4:n.size=b.size+1:=by simp[n,m3,av]
 clear_value n
 have hl:∀z∈[b.size,t.size,m.size],z<n.size:=bF
 have M:=x2.trans x4
 rw[aP V V]
 refine(aX _ _ _ _).aH (J.az _) hl λb5 u T x _=>⟨b5,rfl,λA=>bV (λa=>nb T A ⟨a.fG.1,oh a.fG.2⟩) (M.trans x),λA=>?_⟩
 have aj:=yb T A
 have N:=M.trans x
 let⟨v,hq⟩:=cG l.cF f.fG.toNat
 have d:dO l f.fG=v:=by unfold dO;rw[hq];rfl
 let⟨pa,pl,pc,aF,aK,aa,k0,k1,k2,k3,k4⟩:=(I.ext N).cF.aG hq
 have aH:=aa.len
 have aI:=aa.gV
 refine⟨V,V,pa,k0,pl,k1,_,k2,_,k3,pc,k4,?_⟩
 intro m6 o
 have x7:J u o:=((J.az u).aK _).ah (ad _) _ _
 have s7:o.size=u.size+1:=by simp[o,m6,av]
 have z5:=x.size
 clear_value o
 have K:∀z∈[u.size,b.size,t.size,m.size],z<o.size:=bF
 have P:=N.trans x7
 rw[aP V V]
 refine(aX _ _ _ _).aH (J.az _) K λb8 m8 U y _=>⟨b8,rfl,λB=>bV (λa=>nb U B ⟨a.pc.1,by have:=a.pc.2;rw[d]at this;omega⟩) (P.trans y),λB=>?_⟩
 have ak:=yb U B
 have e:=P.trans y
 have aN:=hr.len
 have aA:=Z.len
 have ar:=he.len
 refine⟨λC=>bV (λa=>by have:=a.lr;rw[d]at this;simp at C;omega) e,λC=>?_⟩
 have q1:(f.ak.length:Int)=v.ak:=by simp at C;omega
 refine⟨λD=>bV (λa=>by have:=a.lo;rw[d]at this;simp at D;omega) e,λD=>?_⟩
 have q2:(f.aR.length:Int)=v.ak:=by simp at D;omega
 refine⟨λE=>bV (λa=>by have:=a.lh;rw[d]at this;simp at E;omega) e,λE=>?_⟩
 have q3:(f.ba.length:Int)=v.ak:=by simp at E;omega
 have ai:=ah.ao f (aq H)
 have ac:=((x4.trans x).trans x7).trans y
 refine(Hl (i.ext e).heap (hr.ext ac) (Z.ext ac) V ai _ _ _).aH y K λb9 m9 W x9 ao=>⟨b9,rfl,λF=>bV (λa=>nb W F a.ak) (e.trans x9),λF=>?_⟩
 have al:=yb W F
 have q:=e.trans x9
 have mk:(nD s.ao k=none->f.dst=0)->(∀p,nD s.ao k=some p->0<=f.dst/\f.dst<p.aR.length/\aG p.aR f.dst=0)->KC l s.heap (nD s.ao k) f:=λha hb=>
  ⟨⟨aj.1,V⟩,⟨ak.1,by rw[d];omega⟩,by rw[d];exact q1,by rw[d];exact q2,by rw[d];exact q3,al,ha,hb⟩
 refine⟨λG=>eU ?_ q,λG=>?_⟩
 .have g:k=0:=by simp at G;omega
  subst g
  refine⟨λh=>mk (λ_=>by simpa using h) (λp c=>by simp[nD]at c),λa=>by simpa using a.first rfl⟩
 .have ay:k≠0:=by simp at G;omega
  obtain⟨j,rfl⟩:∃j,k=j+1:=⟨k -1,V⟩
  have ej:cO (((j+1:Nat):Int) -1)=(j:Int):=by rw[aP V V];omega
  have ag:Int.toNat (j:Int)=j:=V
  rw[ej,ag]
  let⟨g,X⟩:=cG s.ao j
  have r:nD s.ao (j+1)=some g:=X
  obtain⟨r',o',e',aM,L,ap,_,_,_,_,y4,_⟩:=(i.ext q).ao.aG X
  have aB:=L.len
  have aE:=L.gV
  refine⟨V,V,o',y4,?_⟩
  rw[aP V V]
  refine(aX _ _ _ _).aH ao K λae aO S w _=>⟨ae,rfl,λh=>?_,λh=>bV (λa=>?_) (q.trans w)⟩
  .have hd:=S.1 h
   let⟨ab,hv⟩:=cG g.aR f.dst.toNat
   have ev:aG g.aR f.dst=ab:=HM hv
   refine⟨V,V,o',w.af y4,V,V,ab,(L.ext w).aG hv,eU ?_ (q.trans w)⟩
   refine⟨λh9=>mk (λY=>by rw[r]at Y;cases Y) (λp c=>by rw[r]at c;simp at c;subst c;exact⟨hd.1,V,by rw[ev];simpa using h9⟩),λa=>?_⟩
   have:=(a.next g r).2.2
   rw[ev]at this;simpa using this
  .have:=a.next g r
   exact fb S h ⟨this.1,V⟩
end
section
variable{i:Nat}{f:aY}
def Li{b:List aY}(c:b[i]? =some f)(a:Nat):dG (b.take (i+1)) a=dG (b.take i) a+eB f.ba a:=by
 rw[aU c,eK,jc]
def NV{b:List aY}(c:b[i]? =some f)(a:Nat):fA (b.take (i+1)) a=fA (b.take i) a+de f.ak f.aR a:=by
 rw[aU c,fZ,kT]
def tD:∀{ak aR:List Int}{a:Nat}{w o:Int},ak[a]? =some w->aR[a]? =some o->∀b,de (ak.take (a+1)) (aR.take (a+1)) b=de (ak.take a) (aR.take a) b+(if w=1000+(b:Int)then o else 0)
 |[],_,_,_,_,h,_,_=>by simp at h
 |_::_,[],_,_,_,_,h,_=>by simp at h
 |r::f,p::e,0,w,o,c,d,b=>by simp at c d;subst c;subst d;simp[de]
 |r::f,p::e,a+1,w,o,c,d,b=>by
  have:=tD (ak:=f) (aR:=e) (a:=a) (by simpa using c) (by simpa using d) b;simp only[Ns,de]at this⊢;omega
def Lh:∀{a:List aY}{n:Nat},(∀f∈a,f.ba.length<=n)->∀b,dG a b<=a.length*n
 |[],n,_,b=>by simp[dG]
 |f::a,n,h,b=>by
  have c:=Lh (a:=a) λg d=>h g (by simp[d]);have e:=c b;have i:=kC f.ba b;have j:=h f aL;simp only[dG,aZ];have:((a.length+1:Nat):Int)*n=a.length*n+n:=by push_cast;rw[Zd];omega
  omega
def Gq:∀{ak aR:List Int}{n:Int},0<=n->(∀o∈aR,0<=o/\o<=n)->∀a,0<=de ak aR a/\de ak aR a<=aR.length*n
 |[],aR,n,b,h,a=>by simp[de];exact Int.mul_nonneg V b
 |_::_,[],n,b,h,a=>by simp[de]
 |r::e,o::c,n,b,h,a=>by
  have f:=Gq (ak:=e) (aR:=c) b (λx d=>h x (by simp[d])) a;have d:=h o aL;have:((c.length+1:Nat):Int)*n=c.length*n+n:=by push_cast;rw[Zd];omega
  simp only[de,aZ];split<;>omega
def Kx:∀{a:List aY}{n:Nat}{k:Int},0<=k->(∀f∈a,f.aR.length<=n/\∀o∈f.aR,0<=o/\o<=k)->∀b,0<=fA a b/\fA a b<=a.length*(n*k)
 |[],n,k,_,_,b=>by simp[fA]
 |f::a,n,k,c,h,b=>by
  have e:=Kx (a:=a) c (λg d=>h g (by simp[d])) b;let⟨j,d⟩:=h f aL;have g:=Gq (ak:=f.ak) c d b;have i:(f.aR.length:Int)*k<=n*k:=Int.mul_le_mul_of_nonneg_right V c;have:((a.length+1:Nat):Int)*(n*k)=a.length*(n*k)+n*k:=by push_cast;rw[Zd];omega
  simp only[fA,aZ];omega
section
variable{m:E}{d p aS a b:O}{c:cT}{s:St}
def IG(H:gC m aS a b s)(Q:yE s)(hd:s.ao.length<=41):dt cq 64 [MD s aS a b] m (Oq s.heap s.ao):=by
 apply CY;simp -zeta only[aD,aC];intro j;have y:J m j:=(J.az m).aK _;have s1:j.size=m.size+1:=by simp[j]
 clear_value j;have hl:=H.heap.len;have av:=Q.lh;have ar:=H.ao.len;have en:Int.toNat (a.len:Int)=s.heap.length:=V;rw[en];refine⟨V,V,V,V,?_⟩;intro W;have x2:J j W:=(J.az j).aK _;have B2:cD W j.size aA ((sZ s.heap.length (λ_=>0)).map Ce.i):=Mr j _;clear_value W;have r:∀{N M':E},J j N->J N M'->eF [m.size] N M':=λP u=>u.dq λz r=>P.lt (by simp at r;omega);have ac:=λf A=>(Q.lr f A).2.2;refine dT (n:=s.ao.length) V (λi x=>J j x/\cD x j.size aA ((sZ s.heap.length (λc=>dG (s.ao.take i) c)).map Ce.i)/\∀f∈s.ao.take i,∀w∈f.ba,w=0\/(1000<=w/\ix w<s.heap.length)) ⟨x2,by simpa[dG]using B2,aL⟩ ?_;rintro i m3 am μ hi ⟨D,K,T⟩ al
 refine dit (λP=>?_) λP=>?_
 .let⟨f,A⟩:=cG s.ao i;have R:=aq A;have au:=ac f R;have ag:(∃w∈f.ba,¬(w=0\/(1000<=w/\ix w<s.heap.length)))->¬Oq s.heap s.ao:=λ⟨w,h,e⟩ v=>e (v.cL f R w h);refine dT (n:=f.ba.length) V (λk x=>J j x/\cD x j.size aA ((sZ s.heap.length (λc=>dG (s.ao.take i) c+eB (f.ba.take k) c)).map Ce.i)/\∀w∈f.ba.take k,w=0\/(1000<=w/\ix w<s.heap.length)) ⟨D,by simpa[eB]using K,aL⟩ ?_;rintro k o M ν v ⟨F,G,t⟩ C;obtain⟨az,ay,q,_,_,he,_,_,_,_,_,g5⟩:=(H.ext (y.trans F)).ao.aG A;have ap:=he.len;refine⟨V,V,q,by simpa using g5,dit (λu=>?_) λu=>?_⟩
  .let⟨w,h⟩:=cG f.ba k;have U:=aq h;have ak:=(Q.ao f R).2.2 w U;refine⟨V,V,q,by simpa using g5,V,V,w,by simpa using he.aG h,λp=>?_,λp=>?_⟩
   .have I:w≠0:=by simpa using p
    refine(dV _ _).mono ?_;rintro _ m5 ⟨b5,rfl,aa,Y⟩;have X:=F.trans Y;refine⟨r F Y,b5,rfl,λl=>bV (ag ⟨w,U,λe=>?_⟩) (y.trans X),λl=>?_⟩
    .rcases e with e|e
     .exact I e
     .exact nb aa l e.1
    have ah:=yb aa l;have ao:=ak.2;have e1:cO (w -1000)=(ix w:Nat):=by unfold ix;rw[aP V V];omega
    have e2:Int.toNat ((ix w:Nat):Int)=ix w:=V;rw[e1,e2,show cO ((a.len:Int) -1)=(a.len:Int) -1 from aP V V];refine(aX _ _ _ _).mono ?_;rintro _ m6 ⟨b6,rfl,ab,Z⟩;have ai:=X.trans Z;refine⟨r X Z,b6,rfl,λB=>bV (ag ⟨w,U,λe=>?_⟩) (y.trans ai),λB=>?_⟩
    .rcases e with e|e
     .exact I e
     .exact nb ab B ⟨V,V⟩
    have ax:=yb ab B;have S:ix w<s.heap.length:=V;have L:=G.ext (Y.trans Z);simp only[O.gH,O.jD,O.mZ,bT,eR];have q1:=Lh (a:=s.ao.take i) (n:=10000000) (λaj hg=>ac aj (dA hg)) (ix w);have q2:=kC (f.ba.take k) (ix w);have q3:=vU (s.ao.take i) (ix w);have q4:=iF (f.ba.take k) (ix w);have q5:(s.ao.take i).length<=41:=bF;have q6:(f.ba.take k).length<=10000000:=bF;refine⟨V,V,_,tV L S,V,V,Od L S,?_⟩;rw[show cO (dG (s.ao.take i) (ix w)+eB (f.ba.take k) (ix w)+1)=dG (s.ao.take i) (ix w)+eB (f.ba.take k) (ix w)+1 from aP V V];have B7:=Jf L (ix w) (dG (s.ao.take i) (ix w)+eB (f.ba.take k) (ix w)+1);rw[fD (g:=λc=>dG (s.ao.take i) c+eB (f.ba.take (k+1)) c)]at B7
    .refine⟨λz r=>bd _ _ _ _ (by simp at r;omega),C V _ ⟨ai.ah (ad _) _ _,B7,bB h t (Or.inr ⟨ah,S⟩)⟩⟩
    .intro z r;rw[rD h];by_cases q:z=ix w
     .subst q;rw[an rfl,an (iv ah).symm];omega
     .rw[ae q,ae (λaj=>q (by rw[aj,lC]))];omega
   .have I:w=0:=by simpa using p
    refine C V o ⟨F,?_,bB h t (Or.inl I)⟩;rw[fD (g:=λc=>dG (s.ao.take i) c+eB (f.ba.take k) c)]
    .exact G
    .intro z r;rw[rD h,ae V];omega
  .have I:f.ba.take k=f.ba:=bX V;rw[I]at G t;refine al V o ⟨F,?_,bB A T t⟩
   rw[fD (g:=λc=>dG (s.ao.take i) c+eB f.ba c)]
   .exact G
   .intro z r;exact Li A z
 .have I:s.ao.take i=s.ao:=bX V;rw[I]at K T;simp only[O.gH,O.jD,O.mZ,bT,eR];refine dT (n:=s.heap.length) V (λk x=>x=m3/\∀(c:Nat)(h:bN),c<k->s.heap[c]? =some h->(h.aQ<0->dG s.ao c=1)/\(0<=h.aQ->dG s.ao c=0)) ⟨rfl,λc h S=>absurd S (eX _)⟩ ?_;rintro k o M ν v ⟨rfl,t⟩ C;refine⟨λu=>?_,λu=>?_⟩
  .have U:k<s.heap.length:=by first|omega|(simp at u;omega)
   let⟨h,q⟩:=dB U;obtain⟨f,_,g1,_,_⟩:=(H.ext (y.trans D)).heap.aG q;have X:Int.toNat (k:Int)=k:=V;rw[X];have L:=tV K U;have hO:(h.aQ<0->dG s.ao k=1)/\(0<=h.aQ->dG s.ao k=0)->∀(c:Nat)(h:bN),c<k+1->s.heap[c]? =some h->(h.aQ<0->dG s.ao c=1)/\(0<=h.aQ->dG s.ao c=0):=λe c d S hd=>by
    rcases aW c k with R|R
    .exact t c d R hd
    .have:c=k:=V;subst this;rw[q]at hd;simp at hd;subst hd;exact e
   have MW:(h.aQ<0->dG s.ao k=1)->(0:Int)<=(k:Int)/\(k:Int)<(a.len:Int)/\∃w:Int,af o a.D (a.off+k*3)=some (vi w)/\
    ((decide (w>=(0:Int)))=true->(0:Int)<=(k:Int)/\(k:Int)<(s.heap.length:Int)/\∃F:Int,af o j.size k=some (vi F)/\
    ((F !=(0:Int))=true->∃G:Bool,vb false=.bool G/\(G=true<->Oq s.heap s.ao)/\J m o)/\((F !=(0:Int))=false->M (cO ((k:Int)+1)) o/\ν (cO ((k:Int)+1)) o<ν k o))/\
    ((decide (w>=(0:Int)))=false->M (cO ((k:Int)+1)) o/\ν (cO ((k:Int)+1)) o<ν k o):=λe=>by
    refine⟨V,V,_,g1,λp=>⟨V,V,_,L,λl=>bV (λv=>?_) (y.trans D),λl=>C V _ ⟨rfl,hO ⟨e,λ_=>by simpa using l⟩⟩⟩,λp=>C V _ ⟨rfl,hO ⟨e,λB=>by simp at p;omega⟩⟩⟩
    have:=v.nm k h q (by simpa using p)
    simp at l;exact l this
   refine⟨V,V,_,g1,λp=>⟨V,V,_,L,λl=>bV (λv=>?_) (y.trans D),λl=>MW λ_=>by simpa using l⟩,λp=>MW λB=>by simp at p;omega⟩;have:=v.lg k h q (by simpa using p);simp at l;exact l this
  .have l:s.heap.length<=k:=by first|omega|(simp at u;omega)
   exact iR ⟨T,λc h q e=>(t c h (oh (aw q)) q).1 e,λc h q e=>(t c h (oh (aw q)) q).2 e⟩ (y.trans D)
end
end
section
def PH(a:Int):(a==(0:Int))=decide (a=0):=by by_cases h:a=0<;>simp[h]
def FG(a b:Int):(!((a==(0:Int))==(b==(0:Int))))=false<->(a=0<->b=0):=by
 rw[PH,PH];by_cases c:a=0<;>by_cases d:b=0<;>simp[c,d]
section
variable{m:E}{d p aS c b:O}{a:cT}{s:St}
structure Tc(h:List bN)(fs:List aY):Prop where
 len:∀f∈fs,f.aR.length=f.ak.length
 ak:∀f∈fs,HJ h f
def Tc.aR{h:List bN}{a:List aY}(H:Tc h a){f:aY}(b:f∈a):∀o∈f.aR,0<=o/\o<=999999:=λo d=>by
 let⟨k,c⟩:=List.mem_iff_getElem?.1 d;let⟨w,e⟩:=cG f.ak k (Ps (aw c) (H.len f b));exact((H.ak f b).dz k w o e c).2.1
def IY(y:gC m aS c b s)(C:yE s)(hd:s.ao.length<=41)(H:Tc s.heap s.ao):Tq 120 [MD s aS c b] m (sZ s.heap.length (fA s.ao)):=by
 apply Di;simp -zeta only[aD,aC];intro d;have o:J m d:=(J.az m).aK _;have s1:d.size=m.size+1:=by simp[d]
 clear_value d;have hl:=y.heap.len;have aB:=C.lh;have ay:=y.ao.len;have en:Int.toNat (c.len:Int)=s.heap.length:=V;rw[en];refine⟨V,V,V,V,?_⟩;intro A;have x2:J d A:=(J.az d).aK _;have B2:cD A d.size aA ((sZ s.heap.length (λ_=>0)).map Ce.i):=Mr d _;have s2:A.size=d.size+1:=by simp[A]
 clear_value A;refine dT (n:=s.ao.length) V (λi j=>J d j/\d.size<j.size/\cD j d.size aA ((sZ s.heap.length (λe=>fA (s.ao.take i) e)).map Ce.i)) ⟨x2,V,by simpa[fA]using B2⟩ ?_;rintro i S ar μ hi ⟨B,z3,I⟩ am
 refine dit (λh1=>?_) λh1=>?_
 .let⟨f,v⟩:=cG s.ao i;have x:=aq v;have aE:=C.lr f x;let⟨ag,G,u,hr,P,he,g0,g1,g2,Y,Z,g5⟩:=(y.ext (o.trans B)).ao.aG v;have aI:=hr.len;have aG:=P.len;have az:=H.len f x;have ei:Int.toNat (i:Int)=i:=V;rw[ei];refine⟨V,V,_,g0,_,g1,_,g2,ag,Y,G,Z,u,g5,?_⟩;intro m4 l;have x5:J S l:=((J.az S).aK _).ah (ad _) _ _;have s5:l.size=S.size+1:=by simp[l,m4,av]
  clear_value l;have ao:=B.trans x5;refine dT (n:=f.aR.length) V (λa j=>J d j/\l.size<=j.size/\(∀h,h<l.size->h≠d.size->j[h]? =l[h]?)/\cD j d.size aA ((sZ s.heap.length (λe=>fA (s.ao.take i) e+de (f.ak.take a) (f.aR.take a) e)).map Ce.i)) ⟨ao,ad _,λ_ _ _=>rfl,by simpa[de]using(I.ext x5)⟩ ?_;rintro a F au ν hk ⟨t,z6,X,p⟩ ac;refine dit (λh2=>?_) λh2=>?_
  .let⟨w,z⟩:=cG f.ak a;let⟨q,E⟩:=cG f.aR a;have R:=(H.ak f x).dz a w q z E;obtain⟨r',o',e',aH,aF,ax,_,_,_,_,y4,_⟩:=(y.ext (o.trans t)).ao.aG v;have lb:∀{sl:O}{ab:List Int},ap m sl ab->ab≠[]->sl.D<m.size:=λah D=>iI ah D;obtain⟨U,T,e0,aj,ai,_,_,_,_,w3,w4,_⟩:=y.ao.aG v;have er:U=ag:=by have:=(o.trans B).af w3;rw[Y]at this;exact(O.BR.1 (jN this)).symm
   have eo:T=G:=by have:=(o.trans B).af w4;rw[Z]at this;exact(O.BR.1 (jN this)).symm
   subst er;subst eo;have gq:af F T.D (T.off+Int.toNat (a:Int)*1)=some (vi q):=by simpa using(ai.ext (o.trans t)).aG E
   have gw:af F U.D (U.off+Int.toNat (a:Int)*1)=some (vi w):=by simpa using(aj.ext (o.trans t)).aG z
   refine⟨V,V,q,gq,λM=>?_,λM=>?_⟩
   .have Q:0<q:=by simpa using M
    have N:=R.2.2 Q;have aa:=aw (bS N).1;have K:cO (w -1000)=(ix w:Nat):=by have:=N.1;have:=((C.ao f x).1 w (aq z)).2;unfold ix;rw[aP V V];omega
    have L:Int.toNat ((ix w:Nat):Int)=ix w:=V;refine⟨V,V,w,gw,V,V,w,gw,?_⟩;rw[K,L];simp only[O.gH,O.jD,O.mZ,bT,eR];have q1:=Kx (a:=s.ao.take i) (n:=10000000) (k:=999999) V (λW r=>⟨(C.lr W (dA r)).2.1,H.aR (dA r)⟩) (ix w);have q2:=Gq (ak:=f.ak.take a) (aR:=f.aR.take a) (n:=999999) V (λG P=>H.aR x G (dA P)) (ix w);have q5:(s.ao.take i).length<=41:=bF;have q6:(f.aR.take a).length<=10000000:=bF;have q7:=R.2.1;refine⟨V,V,_,tV p aa,V,V,q,by simpa using gq,V,V,Od p aa,?_⟩;rw[show cO (fA (s.ao.take i) (ix w)+de (f.ak.take a) (f.aR.take a) (ix w)+q)=fA (s.ao.take i) (ix w)+de (f.ak.take a) (f.aR.take a) (ix w)+q from aP V V];have W:=Jf p (ix w) (fA (s.ao.take i) (ix w)+de (f.ak.take a) (f.aR.take a) (ix w)+q);rw[fD (g:=λe=>fA (s.ao.take i) e+de (f.ak.take (a+1)) (f.aR.take (a+1)) e)]at W
    .refine⟨λh r=>bd _ _ _ _ (by simp at r;omega),ac V _ ⟨t.ah (ad _) _ _,by rw[av];exact z6,λh r D=>by rw[bd _ _ _ _ D];exact X h r D,W⟩⟩
    .intro h r;rw[tD z E];by_cases u:h=ix w
     .subst u;rw[an rfl,an (iv N.1).symm];omega
     .rw[ae u,ae (λal=>u (by rw[al,lC]))];omega
   .have Q:q=0:=by have:=R.2.1.1;simp at M;omega
    refine ac V F ⟨t,z6,X,?_⟩;rw[fD (g:=λe=>fA (s.ao.take i) e+de (f.ak.take a) (f.aR.take a) e)]
    .exact p
    .intro h r;rw[tD z E,Q];split<;>omega
  .have K:f.ak.take a=f.ak:=bX V;have L:f.aR.take a=f.aR:=bX V;rw[K,L]at p;refine am V F ⟨t,V,?_⟩
   rw[fD (g:=λe=>fA (s.ao.take i) e+de f.ak f.aR e)]
   .exact p
   .intro h r;exact NV v h
 .have a:s.ao.take i=s.ao:=bX V;rw[a]at I;exact⟨_,rfl,Ph I V,o.trans B⟩
def CT(j:gC m aS c b s)(i:yE s)(hd:s.ao.length<=41)(H:Tc s.heap s.ao)(h:∀a∈s.heap,oE s.heap a):
 dt cq 65 [MD s aS c b] m (∀(e:Nat)(a:bN),s.heap[e]? =some a->0<a.aQ->a.aQ=eu s.heap e+fA s.ao e):=by
 apply xH
 simp -zeta only[aD,aC]
 intro l
 have v:J m l:=(J.az m).aK _
 have Z:l.size=m.size+1:=by simp[l]
 clear_value l
 have R:=j.heap.len
 have S:=i.lh
 refine(Bt (j.ext v).heap h i.heap V).mono ?_
 rintro _ T ⟨O,rfl,C,o⟩
 have z2:=o.size
 refine⟨o.dq bF,O,rfl,(IY (j.ext (v.trans o)) i hd H).mono ?_⟩
 rintro _ M ⟨N,rfl,A,w⟩
 have K:=C.len
 have I:=A.len
 rw[ou]at K I
 have p:=(v.trans o).trans w
 refine⟨w.dq bF,N,rfl,?_⟩
 refine dT (n:=s.heap.length) V (λf L=>L=M/\∀(e:Nat)(a:bN),e<f->s.heap[e]? =some a->0<a.aQ->a.aQ=eu s.heap e+fA s.ao e) ⟨rfl,λe a y=>absurd y (eX _)⟩ ?_
 rintro f U P μ z ⟨rfl,B⟩ D
 refine dit (λF=>?_) λF=>?_
 .have t:f<s.heap.length:=V
  let⟨a,r⟩:=dB t
  obtain⟨Q,_,g1,_,_⟩:=(j.ext p).heap.aG r
  have E:Int.toNat (f:Int)=f:=V
  rw[E]
  have hO:(0<a.aQ->a.aQ=eu s.heap f+fA s.ao f)->∀(e:Nat)(a:bN),e<f+1->s.heap[e]? =some a->0<a.aQ->a.aQ=eu s.heap e+fA s.ao e:=λu e d y hd=>by
   rcases aW e f with x|x
   .exact B e d x hd
   .have:e=f:=V;subst this;rw[r]at hd;simp at hd;subst hd;exact u
  have W:=Cf s.heap f λa G=>(h a G).fl
  have X:=rf s.heap f
  have Y:=Kx (a:=s.ao) (n:=10000000) (k:=999999) V (λq g=>⟨(i.lr q g).2.1,H.aR g⟩) f
  refine⟨V,V,_,g1,λq=>?_,λq=>D V _ ⟨rfl,hO λg=>by simp at q;omega⟩⟩
  refine⟨V,V,_,g1,V,V,_,(C.ext w).aG (uY t),V,V,_,A.aG (uY t),?_⟩
  rw[show cO (eu s.heap f+fA s.ao f)=eu s.heap f+fA s.ao f from aP V V]
  refine⟨λg=>bV (λz=>?_) p,λg=>D V _ ⟨rfl,hO λ_=>by simpa using g⟩⟩
  have:=z f a r (by simpa using q)
  simp at g;exact g this
 .exact iR (λe a h u=>B e a (oh (aw h)) h u) p
def Fj(ae:fg m d p a)(x:gC m aS c b s)(G:yE s):dt cq 34 [.agg #[O.v d,O.v p],MD s aS c b] m (cY a s):=by
 apply zy;simp -zeta only[aD,aC];intro H l;have o:J m l:=((J.az m).aK _).aK _;have s1:H.size=m.size+1:=by simp[H]
 have s2:l.size=m.size+2:=by simp[l,s1]
 clear_value l;have k:∀af∈[H.size,m.size],af<l.size:=bF;have ak:=x.ao.len;have h:∀{M:E},J l M->¬Nw a s->∃q:Bool,vb false=.bool q/\(q=true<->cY a s)/\J m M:=λU hn=>bV (λe=>hn (OD e)) (o.trans U);refine(tR (ae.ext o)).aH (J.az _) k λb3 m3 Z x3 _=>⟨b3,rfl,λL=>h x3 λe=>nb Z L e.fy,λL=>?_⟩;have hi:=yb Z L;refine(aX _ _ _ _).aH x3 k λb4 m4 aa ay X=>⟨b4,rfl,λN=>h X λe=>nb aa N e.cE,λN=>?_⟩;have an:=yb aa N;have ac:(s.ao=[])<->((b.len:Int)=0):=by rw[ak];simp
 refine⟨λP=>h X λe=>?_,λP=>?_⟩
 .have:=e.done;rw[ac,<-FG]at this;rw[this]at P;cases P
 have aj:s.cE=0<->s.ao=[]:=by rw[ac];exact(FG _ _).1 P
 refine⟨λM=>J l M/\gP s.value/\(s.value≠0->s.cE=0)/\(0<=s.dU/\s.dU<=40)/\(0<=s.bu/\s.bu<=s.dU),?_,?_⟩
 .refine(aX _ _ _ _).aH X k λb5 W u y w=>⟨b5,rfl,λr=>h w λe=>nb u r e.value,λr=>?_⟩;have tail:(s.value≠0->s.cE=0)->aN cq 41 [vi s.dU,vi (0:Int),vi (40:Int)] W λv f=>eF [H.size,m.size] W f/\∃i:Bool,v=vb i/\
   ((!i)=true->∃q:Bool,vb false=.bool q/\(q=true<->cY a s)/\J m f)/\((!i)=false->aN cq 41 [vi s.bu,vi (0:Int),vi s.dU] f λt g=>
   eF [H.size,m.size] f g/\∃j:Bool,t=vb j/\((!j)=true->∃q:Bool,vb false=.bool q/\(q=true<->cY a s)/\J m g)/\
   ((!j)=false->J l g/\gP s.value/\(s.value≠0->s.cE=0)/\(0<=s.dU/\s.dU<=40)/\(0<=s.bu/\s.bu<=s.dU))):=λT=>
   (aX _ _ _ _).aH w k λb6 m6 C aq z=>⟨b6,rfl,λg=>h z λe=>nb C g e.dU,λg=>
    (aX _ _ _ _).aH z k λR m7 D ar I=>⟨R,rfl,λB=>h I λe=>nb D B e.bu,λB=>⟨I,(yb u r),T,yb C g,yb D B⟩⟩⟩
  refine⟨λt=>⟨λg=>h w λe=>?_,λg=>tail λ_=>by simpa using g⟩,λt=>tail λg=>absurd (by simpa using t) g⟩;have:=e.ua (by simpa using t);simp at g;exact g this
 .rintro W ⟨w,hv,T,al,ah⟩;rw[aP V V];refine⟨λr=>h w λe=>by have:=e.depth;simp at r;omega,λr=>?_⟩;have ai:(s.ao.length:Int)<=s.bu+1:=by simp at r;omega
  have ab:s.ao.length<=41:=V;refine(Ew (x.ext (o.trans w)).aS).aH w k λb6 m6 C aq z=>⟨b6,rfl,λt=>h z λe=>nb C t e.aS,λt=>?_⟩;have am:=yb C t;refine(Hj (x.ext (o.trans z)).heap G.heap (oh G.lh)).aH z k λR m7 D ar I=>⟨R,rfl,λg=>h I λe=>nb D g e.heap,λg=>?_⟩;have ad:=yb D g;refine dT (n:=s.ao.length) V (λy m'=>J l m'/\∀(j:Nat)(f:aY),j<y->s.ao[j]? =some f->KC a s.heap (nD s.ao j) f) ⟨I,λj f v=>absurd v (eX _)⟩ ?_;rintro y m8 av μ e ⟨K,hq⟩ ao
  refine dit (λB=>?_) λB=>?_
  .let⟨f,i⟩:=cG s.ao y;refine(Ff (ae.ext (o.trans K)) (x.ext (o.trans K)) G i).aH K k λS m9 F au A=>⟨S,rfl,λu=>h A λe=>nb F u (e.ao y f i),λu=>ao V _ ⟨A,λj ag v Q=>?_⟩⟩;rcases aW j y with Y|Y
   .exact hq j ag Y Q
   .have:j=y:=V;subst this;rw[i]at Q;simp at Q;subst Q;exact yb F u
  .have Q:∀(j:Nat)(f:aY),s.ao[j]? =some f->KC a s.heap (nD s.ao j) f:=λj f i=>hq j f (oh (aw i)) i;have Y:Tc s.heap s.ao:=⟨λf i=>by
    let⟨j,v⟩:=wi i;have L:=(Q j f v).lr;have N:=(Q j f v).lo;omega,λf i=>let⟨j,v⟩:=wi i;(Q j f v).ak⟩
   refine(IG (x.ext (o.trans K)) G ab).aH K k λS m9 F au A=>⟨S,rfl,λu=>?_,λu=>h A λe=>fb F u e.ba⟩;refine(CT (x.ext (o.trans A)) G ab Y ad.cells).aH A k λv ax ag az ap=>⟨v,rfl,eU ?_ (o.trans ap)⟩;rw[ag];exact⟨λU=>Mq ⟨hi,an,aj,hv,T,al,ah,ai,am,ad,Q,F.1 u,U⟩,λe=>(OD e).QV⟩
end
end
section
variable{m:E}{b:List bN}{w:Int}{d:bN}{a:Nat}{W:List Nat}
def qX(n:Int)(m:E):dt cq 76 [vi n] m (gP n):=by
 apply HV;refine⟨λb=>eU ?_ (J.az _),λb=>bV (λa=>?_) (J.az _)⟩
 .simp at b;simp[gP,b]
 .simp at b;have:=a.1;omega
def Gh{f:O}(d:cW m f b)(j:HB w):dt cq 196 [O.v f,vi w] m (qJ b w):=by
 apply Ai;refine(iu d j.2).mono ?_;rintro _ k ⟨a,h,rfl,e,_,g⟩;refine⟨a,h,rfl,λc=>iR (Or.inr (e.1 c)) g,λc=>?_⟩;refine(qX w k).then λb2 n i l=>⟨b2,rfl,eU ?_ (g.trans l)⟩;rw[i];exact⟨Or.inl,λd=>d.resolve_right (fb e c)⟩
structure Jn(b:List bN)(d:bN):Prop where
 lo: -1<=d.aQ
 kj:0<=d.kj/\d.kj<=99
 fl:d.aF.length<=3
 wZ:d.aQ<1->d.kj=0
 jd:d.aQ=0->d.aF=[]
 cL:∀w∈d.aF,qJ b w/\(d.aQ<0->w=0)
def Jn.ok(a:Jn b d)(e:d.aQ<=999999):oE b d:=
 ⟨a.fl,a.lo,e,λhd=>⟨a.wZ hd,λw c=>by
  by_cases f:d.aQ<0
  .exact(a.cL w c).2 f
  .rw[a.jd V]at c;simp at c,a.jd⟩,λ_=>⟨λw c=>(a.cL w c).1,a.kj⟩⟩
def oE.v(a:oE b d):Jn b d:=by
 refine⟨a.lo,?_,a.fl,λhd=>(a.wZ hd).1,λf=>(a.wZ V).2.2 f,λw e=>⟨?_,λg=>(a.wZ V).2.1 w e⟩⟩
 .by_cases c:0<d.aQ
  .exact(a.oX c).2
  .have:=(a.wZ V).1;omega
 .by_cases c:0<d.aQ
  .exact(a.oX c).1 w e
  .have:=(a.wZ V).2.1 w e;exact Or.inl (by subst this;exact⟨bn,bn⟩)
def Jn.cases(c:Jn b d)(e:w∈d.aF):gA b w\/w<1000:=by
 rcases(c.cL w e).1 with a|a
 .have:=a.2;exact Or.inr V
 .exact Or.inl a
def FY{z j:O}(E:cW m z b)(x:ap m j d.aF)(G:∀w∈d.aF,HB w):dt cq 152 [O.v z,.agg #[vi d.aQ,vi d.kj,O.v j]] m (Jn b d):=by
 apply Ac;simp -zeta only[aD,aC];intro e;have f:J m e:=(J.az m).aK _;have N:e.size=m.size+1:=by simp[e]
 clear_value e;have y:=x.len;have F:∀C∈[m.size],C<e.size:=bF;refine⟨λk=>bV (λc=>by have:=c.lo;simp at k;omega) f,λk=>⟨λl=>bV (λc=>by have:=c.kj;simp at l;omega) f,λl=>⟨λo=>bV (λc=>by have:=c.kj;simp at o;omega) f,λo=>⟨λr=>bV (λc=>by have:=c.fl;simp at r;omega) f,λr=>?_⟩⟩⟩⟩;simp at k l o r;refine⟨λM=>M=e/\(d.aQ<1->d.kj=0)/\(d.aQ=0->d.aF=[]),?_,?_⟩
 .have zero:(d.aQ<1->d.kj=0)->((d.aQ==(0:Int))=true->((decide ((j.len:Int)>(0:Int)))=true->∃a:Bool,vb false=.bool a/\(a=true<->Jn b d)/\J m e)/\
   ((decide ((j.len:Int)>(0:Int)))=false->e=e/\(d.aQ<1->d.kj=0)/\(d.aQ=0->d.aF=[])))/\((d.aQ==(0:Int))=false->e=e/\(d.aQ<1->d.kj=0)/\(d.aQ=0->d.aF=[])):=λh=>
   ⟨λg=>⟨λa=>bV (λc=>by have:=c.jd (by simpa using g);rw[this]at y;simp at a y;omega) f,λa=>⟨rfl,h,λ_=>List.length_eq_zero_iff.1 (by simp at a;omega)⟩⟩,λg=>⟨rfl,h,λa=>by simp at g;exact absurd a g⟩⟩
  refine⟨λg=>⟨λa=>bV (λc=>by have:=c.wZ (by simpa using g);simp at a;exact a this) f,λa=>zero λ_=>by simpa using a⟩,λg=>zero λa=>by simp at g;omega⟩
 .rintro H ⟨rfl,hd,D⟩;refine dT (n:=d.aF.length) V (λv h=>J H h/\∀w∈d.aF.take v,qJ b w/\(d.aQ<0->w=0)) ⟨J.az _,aL⟩ ?_;rintro v L I μ K ⟨q,u⟩ B
  refine dit (λg=>?_) λg=>?_
  .let⟨w,h⟩:=cG d.aF v;refine⟨V,V,w,by simpa using(x.ext (f.trans q)).aG h,(Gh (cW.ext (f.trans q) E) (G w (aq h))).aH q F λb4 A t P p=>⟨b4,rfl,λa=>bV (λc=>nb t a (c.cL w (aq h)).1) (f.trans p),λa=>⟨λs=>⟨λi=>bV (λc=>?_) (f.trans p),λi=>B V A ⟨p,bB h u ⟨yb t a,λ_=>by simpa using i⟩⟩⟩,λs=>B V A ⟨p,bB h u ⟨yb t a,λi=>by simp at s;omega⟩⟩⟩⟩⟩;have:=(c.cL w (aq h)).2 (by simpa using s);simp at i;exact i this
  .exact iR ⟨k,⟨l,o⟩,V,hd,D,db V u⟩ (f.trans q)
def ig(mk:Nat->Bool):Nat->List bN->Nat->Int
 |_,[],_=>0
 |i,d::b,a=>(if mk i=true then 0 else eB d.aF a)+ig mk (i+1) b a
def Es:∀(i:Nat)(b:List bN)(a:Nat),ig (λ_=>false) i b a=eu b a
 |_,[],_=>rfl
 |i,d::b,a=>by simp[ig,eu,Es (i+1) b a]
def Gs(mk:Nat->Bool):∀(i:Nat)(b:List bN)(a:Nat),0<=ig mk i b a
 |_,[],_=>dw 0
 |i,d::b,a=>by have:=Gs mk (i+1) b a;have:=iF d.aF a;simp only[ig];split<;>omega
def Qc(mk:Nat->Bool):∀(i:Nat)(b:List bN)(a:Nat),ig mk i b a<=eu b a
 |_,[],_=>dw 0
 |i,d::b,a=>by have:=Qc mk (i+1) b a;have:=iF d.aF a;simp only[ig,eu];split<;>omega
def JG{mk e:Nat->Bool}:∀{i:Nat}{b:List bN}{a:Nat},(∀j,i<=j->mk j=e j)->ig mk i b a=ig e i b a
 |_,[],_,_=>rfl
 |i,d::b,a,c=>by simp only[ig];rw[c i (ad _),JG λj f=>c j V]
def NY{mk:Nat->Bool}:∀{e:Nat}{b:List bN}{f:Nat}{d:bN},b[f]? =some d->mk (e+f)=false->∀a,ig (mO mk (e+f)) e b a=ig mk e b a -eB d.aF a
 |_,[],_,_,b,_,_=>by simp at b
 |e,m::b,0,d,j,l,a=>by
  simp at j;subst j;have g:=JG (mk:=mO mk e) (e:=mk) (i:=e+1) (b:=b) (a:=a) λo n=>pU V;rw[jH]at l⊢;simp only[ig,Cj,l,g];simp;omega
 |e,m::b,f+1,d,j,l,a=>by
  have g:e+(f+1)=e+1+f:=V;have:=NY (mk:=mk) (e:=e+1) (b:=b) (f:=f) (d:=d) (by simpa using j) (by rw[<-g];exact l) a;simp only[ig];rw[g,this,pU V];omega
def Qb{mk:Nat->Bool}:∀{e:Nat}{b:List bN}{j:Nat}{d:bN},b[j]? =some d->mk (e+j)=false->∀a,eB d.aF a<=ig mk e b a
 |_,[],_,_,b,_,_=>by simp at b
 |e,l::b,0,d,f,g,a=>by
  simp at f;subst f;have:=Gs mk (e+1) b a;simp only[jH]at g;simp only[ig,g];simp;omega
 |e,l::b,j+1,d,f,g,a=>by
  have:=Qb (mk:=mk) (e:=e+1) (b:=b) (j:=j) (d:=d) (by simpa using f) (by rw[<-g];congr 1;omega) a;have:=iF l.aF a;simp only[ig];split<;>omega
def NX{mk:Nat->Bool}:∀{i:Nat}{b:List bN}{a:Nat},0<ig mk i b a->∃(k:Nat)(d:bN),b[k]? =some d/\mk (i+k)=false/\(1000+(a:Int))∈d.aF
 |_,[],_,b=>by simp[ig]at b
 |i,c::b,a,g=>by
  simp only[ig]at g;by_cases f:mk i=false/\0<eB c.aF a
  .exact⟨0,c,rfl,f.1,OW f.2⟩
  .have:0<ig mk (i+1) b a:=by
    have:=iF c.aF a;split at g
    .omega
    .rename_i h;have:¬0<eB c.aF a:=λe=>f ⟨by simpa using h,e⟩;omega
   let⟨k,d,h,e,j⟩:=NX this;exact⟨k+1,d,by simpa using h,by rw[<-e];congr 1;omega,j⟩
def Tk(b:List bN)(mk:Nat->Bool):Prop:=
 ∃t:Nat->Nat,(∀j,mk j=true->t j<=mH mk b.length)/\∀(i:Nat)(d:bN),b[i]? =some d->∀w∈d.aF,1000<=w->mk (ix w)=true->mk i=true/\t i<t (ix w)
def Tk.set{mk:Nat->Bool}(u:Tk b mk)(t:a<b.length)(k:mk a=false)(B:ig mk 0 b a=0):Tk b (mO mk a):=by
 let⟨A,n,s⟩:=u;have r:=zU k t;have v:∀(c:Nat)(d:bN),b[c]? =some d->(1000+(a:Int))∈d.aF->mk c=true:=λc d f g=>by
  cases e:mk c
  .have g1:=Qb (mk:=mk) (e:=0) f (by rw[bT];exact e) a;have g2:=uL g;omega
  .rfl
 refine⟨λx=>if x=a then mH mk b.length+1 else A x,λy o=>?_,λc d f w g q p=>?_⟩
 .simp only[r];split
  .omega
  .rename_i h;rw[pU h]at o;have:=n y o;omega
 .by_cases h:ix w=a
  .have e:=v c d f (by rw[<-h,iv q];exact g);have l:c≠a:=λj=>by rw[j,k]at e;cases e
   simp only[an h,ae l];exact⟨Ck e,oh (n c e)⟩
  .rw[pU h]at p;let⟨m,z⟩:=s c d f w g q p;have l:c≠a:=λj=>by rw[j,k]at m;cases m
   simp only[ae h,ae l];exact⟨Ck m,z⟩
def PI(f:Nat->Nat):∀n,∃B,∀i,i<n->f i<=B
 |0=>⟨0,λi a=>absurd a (eX _)⟩
 |n+1=>by
  let⟨B,c⟩:=PI f n;refine⟨B+f n,λi a=>?_⟩;rcases aW i n with b|b
  .have:=c i b;omega
  .have:i=n:=V;subst this;omega
def Vg{mk:Nat->Bool}(r:Tk b mk)(q:∀d∈b,∀w∈d.aF,1000<=w->ix w<b.length)(o:∀a,a<b.length->ig mk 0 b a=0->mk a=true):
 mH mk b.length=b.length<->Ta b:=by
 rw[KQ]
 constructor
 .intro g
  let⟨t,e,c⟩:=r
  refine⟨λx=>b.length -t x,λi d h w j f=>?_⟩
  have k:=q d (aq h) w j f
  have:=(c i d h w j f (g _ k)).2
  have:=e _ (g _ k)
  have:=FL mk b.length
  show b.length -t (ix w)<b.length -t i
  omega
 .rintro⟨h,s⟩
  let⟨B,m⟩:=PI h b.length
  have u:∀(n i:Nat),B -h i<n->i<b.length->mk i=true:=by
   intro n;induction n with
   |zero=>intro i g;omega
   |succ n t=>
    intro i g p;refine o i p (Int.le_antisymm (Int.not_lt.1 λf=>?_) (Gs _ _ _ _));let⟨k,d,e,c,l⟩:=NX f;rw[bT]at c;have:=s k d e _ l V;rw[lC]at this;have j:=aw e;have:=m k j;rw[t k V j]at c;cases c
  exactλi g=>u (B -h i+1) i V g
structure HD(b:List bN)(mk:Nat->Bool)(W:List Nat)(lf:Nat->Int):Prop where
 Lz:W.Nodup
 un:∀a∈W,a<b.length/\mk a=false
 zero:∀a,a<b.length->(lf a=0<->(mk a=true\/a∈W))
def Gm:∀(n:Nat)(W:List Nat),W.Nodup->(∀a∈W,a<n)->W.length<=n
 |0,[],_,_=>ad _
 |0,a::_,_,b=>absurd (b a aL) (eX _)
 |n+1,W,hd,b=>by
  by_cases d:n∈W
  .have e:=Gm n (W.erase n) (hd.erase n) λa c=>by
    have:=hd.mem_erase_iff.1 c;have:=b a this.2;omega
   rw[List.length_erase_of_mem d]at e;omega
  .have:=Gm n W hd λa c=>by
    have:=b a c;have:a≠n:=λe=>d (e▸c);omega
   omega
def HD.len{mk:Nat->Bool}{d:Nat->Int}(K:HD b mk W d):W.length<=b.length:=Gm _ _ K.Lz λa c=>(K.un a c).1
def HD.Vj{mk:Nat->Bool}{f:Nat->Int}(K:HD b mk (W++[a]) f):HD b (mO mk a) W f:=by
 let⟨g,i,h⟩:=List.nodup_append.1 K.Lz;refine⟨g,λx c=>?_,λx c=>?_⟩
 .have d:=K.un x (bJ _ c);refine⟨d.1,?_⟩;rw[pU λe=>h x c a aL e];exact d.2
 .rw[K.zero x c];by_cases e:x=a
  .subst e;simp[Cj]
  .rw[pU e];simp[e]
def HD.nV{mk:Nat->Bool}{g lf':Nat->Int}(K:HD b mk W g)(i:a<b.length)(j:∀x,lf' x=if x=a then g x -1 else g x)(l:0<g a):
 (lf' a=0->HD b mk (W++[a]) lf')/\(lf' a≠0->HD b mk W lf'):=by
 have f:mk a≠true/\a∉W:=by
  have:=(K.zero a i).2;constructor
  .intro d;have:=this (Or.inl d);omega
  .intro d;have:=this (Or.inr d);omega
 refine⟨λh=>⟨?_,λx c=>?_,λx c=>?_⟩,λh=>⟨K.Lz,K.un,λx c=>?_⟩⟩
 .rw[List.nodup_append]
  refine⟨K.Lz,aL,λx c y k e=>?_⟩
  simp at k;subst k;subst e;exact f.2 c
 .rcases List.mem_append.1 c with c|c
  .exact K.un x c
  .simp at c;subst c;exact⟨i,by simpa using f.1⟩
 .by_cases e:x=a
  .subst e;simp[h]
  .rw[j x,ae e,K.zero x c];simp[e]
 .by_cases e:x=a
  .subst e
   constructor
   .intro d;exact absurd d h
   .rintro(d|d)
    .exact absurd d f.1
    .exact absurd d f.2
  .rw[j x,ae e,K.zero x c]
end
section
variable{b:Nat->Nat}{m:E}{k c a:Nat}{s:O}{d:Nat->Int}
def U0(W:List Nat):List Int:=W.map λ(a:Nat)=>(a:Int)
def Ku(W:List Nat):(U0 W).length=W.length:=by simp[U0]
def KT(W:List Nat)(a:Nat):U0 (W++[a])=U0 W++[(a:Int)]:=by simp[U0]
def V2(h:iJ b m aA 1 k s ((sZ c d).map Ce.i))(g:c<=9223372036854775807)(e:a<c):af m s.D (s.off+Int.toNat (a:Int)*1)=some (vi (d a)):=by
 have:=(h.nM (by rw[ou];exact g)).aG (uY (f:=d) e);simpa using this
def Uk(h:iJ b m aA 1 k s ((sZ c d).map Ce.i)):s.len=c:=by have:=h.len;simp[ou]at this;omega
def Xp{g:Nat->Int}(h:iJ b m aA 1 k s ((sZ c d).map Ce.i))(q:a<c){v:Int}(o:∀e,e<c->g e=if e=a then v else d e)(p:∀e,m.size<=e->b e=0):
 fL m s.D (s.off+Int.toNat (a:Int)*1) 1/\iJ b (ah m s.D (s.off+Int.toNat (a:Int)*1) [.i v]) aA 1 k s ((sZ c g).map Ce.i)/\dm (λj=>j=k) b m b (ah m s.D (s.off+Int.toNat (a:Int)*1) [.i v]):=by
 have f:(0:Int)<=(a:Int):=V
 have i:(a:Int)<((sZ c d).length:Nat):=by rw[ou];omega
 have j:=h.gT f i v
 have l:gT (sZ c d) (a:Int) v=sZ c g:=by
  unfold gT;rw[show Int.toNat (a:Int)=a by omega,Se];exact fD λe n=>(o e n).symm
 rw[l]at j
 have r:=Uk h
 have t:=h.le
 exact⟨h.Of f i,j,dm.ah p (h.D V).2 _ _⟩
def XS(m:E)(h:List bN)(v:Value)(c:E):Prop:=∃(s:O)(b:Bool),v=.tuple #[O.v s,vb b]/\(b=true<->Oo h)/\
 (b=true->∃a,s=.mk a 0 h.length h.length/\m.size<=a/\cD c a aA ((sZ h.length (eu h)).map Ce.i))/\J m c
def Cu{N:O}{h:List bN}(y:cW m N h)(aS:Sn h)(bl:h.length<=1000000000):aN cq 77 [O.v N] m (XS m h):=by
 apply xh;simp -zeta only[aD,aC];have hl:=y.len;have en:Int.toNat (N.len:Int)=h.length:=V;rw[en];refine⟨V,V,V,V,?_⟩;intro m1;have x1:J m m1:=(J.az m).aK _;have B1:cD m1 m.size aA ((sZ h.length (λ_=>0)).map Ce.i):=Mr m _;clear_value m1;have no:∀{M:E},J m M->¬Oo h->XS m h (.tuple #[O.v O.nil,vb false]) M:=λT G=>⟨.nil,false,rfl,by simp[G],aL,T⟩;have am:∀c:Nat,Int.toNat (c:Int)=c:=λc=>V;simp -zeta only[O.gH,O.jD,O.mZ,bT];refine dT (n:=h.length) V (λt l=>J m l/\cD l m.size aA ((sZ h.length (λa=>eu (h.take t) a)).map Ce.i)/\∀e∈h.take t,Jn h e) ⟨x1,by simpa[eu]using B1,aL⟩ ?_;rintro t m2 bu μ hi ⟨Z,B2,ai⟩ X
 have bD:=B2.lt;have h3:∀e∈h.take t,e.aF.length<=3:=λe hm=>(ai e hm).fl;refine dit (λh1=>?_) λh1=>?_
 .let⟨e,r⟩:=cG h t;have ab:=aq r;let⟨d,hf,g0,g1,g2⟩:=(cW.ext Z y).aG r;rw[am];refine⟨V,V,e.aQ,g0,e.kj,g1,d,g2,?_⟩;intro L I;have o:J m2 I:=((J.az m2).aK _).ah (ad _) _ _;have s4:I.size=m2.size+1:=by simp[I,L,av]
  clear_value I;refine(FY (cW.ext (Z.trans o) y) (hf.ext o) (aS e ab)).aH (J.az _) bF λj U S s _=>⟨j,rfl,λh2=>no ((Z.trans o).trans s) λz=>nb S h2 (z.cells e ab).v,λh2=>?_⟩;have A:=yb S h2;have be:=A.fl;have z5:=s.size;have ah:=hf.len;refine dT (n:=e.aF.length) V (λk l=>J m l/\m2.size<l.size/\ap l d e.aF/\cD l m.size aA ((sZ h.length (λa=>eu (h.take t) a+eB (e.aF.take k) a)).map Ce.i)) ⟨((Z.trans o).trans s),V,(hf.ext (o.trans s)),by simpa[eB]using(B2.ext (o.trans s))⟩ ?_;rintro k p aa ν z ⟨K,z6,D,l⟩ Q;refine dit (λh4=>?_) λh4=>?_
  .let⟨w,H⟩:=cG e.aF k;have au:=aq H;refine⟨V,V,w,by simpa using D.aG H,(iu (cW.ext K y) (aS e ab w au).2).mono ?_⟩;rintro _ q ⟨a,R,rfl,P,W,F⟩;have z7:=F.size;refine⟨F.dq bF,a,R,rfl,λC=>?_,λC=>?_⟩
   .have ag:=P.1 C;have ac:=aw (bS ag).1;have e1:=W C;subst e1;have x:=l.ext F;have q1:=Cf (h.take t) (ix w) h3;have q2:=kC (e.aF.take k) (ix w);have q3:=rf (h.take t) (ix w);have q4:=iF (e.aF.take k) (ix w);have q5:(h.take t).length<=h.length:=bF;have q6:(e.aF.take k).length<=3:=bF;rw[am,eR];refine⟨V,V,_,tV x ac,V,V,Od x ac,?_⟩;rw[show cO (eu (h.take t) (ix w)+eB (e.aF.take k) (ix w)+1)=eu (h.take t) (ix w)+eB (e.aF.take k) (ix w)+1 from aP V V];have B:=Jf x (ix w) (eu (h.take t) (ix w)+eB (e.aF.take k) (ix w)+1);rw[fD (g:=λa=>eu (h.take t) a+eB (e.aF.take (k+1)) a)]at B
    .refine⟨λj S=>bd _ _ _ _ (by simp at S;omega),Q V _ ⟨(K.trans F).ah (ad _) _ _,by rw[av];omega,?_,B⟩⟩;obtain⟨f0,aR,_,_,w2⟩:=y.aG r;have er:f0=d:=by have:=Z.af w2;rw[g2]at this;exact(O.BR.1 (jN this)).symm
     subst er;exact aR.ext ((K.trans F).ah (ad _) _ _)
    .intro j S;rw[rD H];by_cases u:j=ix w
     .subst u;rw[an rfl,an (iv ag.1).symm];omega
     .rw[ae u,ae (λY=>u (by rw[Y,lC]))];omega
   .refine Q V q ⟨K.trans F,V,D.ext F,?_⟩;have bi:w<1000:=(A.cases au).resolve_left (fb P C);rw[fD (g:=λa=>eu (h.take t) a+eB (e.aF.take k) a)]
    .exact l.ext F
    .intro j S;rw[rD H,ae V];omega
  .have x:e.aF.take k=e.aF:=bX V;rw[x]at l;refine X V p ⟨K,?_,bB r ai A⟩
   rw[fD (g:=λa=>eu (h.take t) a+eB e.aF a)]
   .exact l
   .intro j S;exact N3 r j
 have ei:h.take t=h:=bX V;rw[ei]at B2 ai h3;clear X
 have a1:∀e∈h,∀w∈e.aF,gA h w\/w<1000:=λe s w H=>(ai e s).cases H;have ag:∀e∈h,∀w∈e.aF,1000<=w->ix w<h.length:=λe hm w H N=>by
  rcases a1 e hm w H with h1|h1
  .exact aw (bS h1).1
  .omega
 refine⟨λM=>m2=M/\nZ h,⟨λh2=>?_,λh2=>⟨rfl,λe s=>?_⟩⟩,?_⟩
 .simp at h2;rw[aP V V];let⟨e,s⟩:=cG h (h.length -1);obtain⟨d,hf,g1,_,_⟩:=(cW.ext Z y).aG s;have u:Int.toNat ((N.len:Int) -1)=h.length -1:=V;rw[u];refine⟨V,V,e.aQ,g1,λh3=>no Z λz=>z.jB e s (by simpa using h3),λh3=>⟨rfl,λak hd=>?_⟩⟩;rw[s]at hd;simp at hd;subst hd;simpa using h3
 .have:=aw s;simp at h2;omega
 rintro _ ⟨rfl,bm⟩;refine(eN (Ph B2 V) (by rw[ou];exact bl)).mono ?_;rintro _ L ⟨A,rfl,or,x3⟩;have z3:=x3.size;have B3:=B2.ext x3;have bJ:=Z.size;obtain⟨B,aG⟩:∃B:Nat->Nat,B=λj=>if A.Gi=false/\j=A.D then 2 else if j=m.size then 1 else 0:=⟨_,rfl⟩
 have aF:A.Gi=false->m2.size<=A.D/\A.D<L.size:=λG=>by
  have ah:A≠.nil:=λu=>by rw[u]at G;simp at G
  exact⟨or.D.resolve_left ah,or.lt.resolve_left ah⟩
 have aV:∀j,j≠m.size->(A.Gi=false->j≠A.D)->B j=0:=λj h4 C=>by
  rw[aG];exact(ae λy=>C y.1 y.2).trans (ae h4)
 have bs:B m.size=1:=by
  rw[aG];exact(ae λy=>oh (aF y.1)).trans (an rfl)
 have bp:∀j,L.size<=j->B j=0:=λj S=>aV j V λG=>by have:=aF G;omega
 have a_:∀j,j<m.size->B j=0:=λj S=>aV j V λG=>by have:=aF G;omega
 have A3:iJ B L aA 1 2 A ((sZ h.length (eu h)).map Ce.i):=iJ.gD or λah=>by
  rw[aG];refine an ⟨?_,rfl⟩;cases A with
  |nil=>exact absurd rfl ah
  |_=>rfl
 have bA:=Uk A3;clear aF aV aG;have aJ:∀{b a6:Nat->Nat}{M M':E},dm (λk=>k=2\/k=6) b M a6 M'->To b M a6 M':=λs=>s.mono λk z=>V;have aM:∀{b:Nat->Nat}{M:E},dm (λk=>k=2\/k=6) B L b M->J m M:=λs=>((aJ s).cv (Z.trans x3) a_).1;have a5:∀{b:Nat->Nat}{M:E},dm (λk=>k=2\/k=6) B L b M->cD M m.size aA ((sZ h.length (eu h)).map Ce.i):=λs=>B3.congr (s.eA _ B3.lt (by rw[bs];decide));have bq:iJ B L aA 1 6 .nil (([]:List Int).map Ce.i):=⟨aL,aL,Or.inl rfl⟩;refine⟨A,rfl,ez (σ:=O) (n:=h.length) V (λk P M=>∃b W,dm (λk=>k=2\/k=6) B L b M/\iJ b M aA 1 2 A ((sZ h.length (eu h)).map Ce.i)/\iJ b M aA 1 6 P ((U0 W).map Ce.i)/\W.Nodup/\(∀a∈W,a<k)/\(∀a,a<k->(eu h a=0<->a∈W))/\
  ∀(a:Nat)(e:bN),a<k->h[a]? =some e->0<e.aQ->eu h a<=e.aQ/\e.aQ<=999999) ⟨B,[],dm.az _ bp,A3,bq,aL,aL,aL,aL⟩ ?_⟩
 rintro k P I I2 μ2 z ⟨Y,W,C4,A4,W4,ao,aj,aH,aE⟩ X
 have X4:=aM C4;refine dit (λh4=>?_) λh4=>?_
 .have al:k<h.length:=V;let⟨e,aa⟩:=dB al;let⟨d,hf,g0,g1,g2⟩:=(cW.ext X4 y).aG aa;rw[am];refine⟨V,V,e.aQ,g0,e.kj,g1,d,g2,?_⟩;intro U p;have K:J I p:=((J.az I).aK _).ah (ad _) _ _;have s6:p.size=I.size+1:=by simp[p,U,av]
  clear_value p;have ax:dm (λk=>k=2\/k=6) Y I Y p:=dm.eG _ K C4.new;have C6:=C4.trans ax;have F6:dm (λ_=>False) Y I Y p:=dm.eG _ K C4.new;have A6:=A4.eH F6 id;have W6:=W4.eH F6 id;have g6:=tV (a5 C6) al;have hO:(0<e.aQ->eu h k<=e.aQ/\e.aQ<=999999)->∀(a:Nat)(e:bN),a<k+1->h[a]? =some e->0<e.aQ->eu h a<=e.aQ/\e.aQ<=999999:=λG a ak o hd=>by
   rcases aW a k with Q|Q
   .exact aE a ak Q hd
   .have:a=k:=V;subst this;rw[aa]at hd;simp at hd;subst hd;exact G
  have jQ:(0<e.aQ->eu h k<=e.aQ/\e.aQ<=999999)->((0:Int)<=k/\(k:Int)<(h.length:Int)/\∃r:Int,af p m.size (k*1)=some (vi r)/\
   ((r==(0:Int))=true->let x:E:=p.push (.cells (bt [.i (k:Int)]) 3)
    jO x 3 [.i (0:Int)] 8 P (O.mk p.size 0 1 1) λD l=>eF [I.size] x l/\I2 D (cO ((k:Int)+(1:Int))) l/\μ2 D (cO ((k:Int)+(1:Int))) l<μ2 P k I)/\
   ((r==(0:Int))=false->I2 P (cO ((k:Int)+(1:Int))) p/\μ2 P (cO ((k:Int)+(1:Int))) p<μ2 P k I)):=λG=>by
   refine⟨V,V,_,by rw[eR];exact g6,λD=>?_,λD=>?_⟩
   .intro q
    have F:J p q:=(J.az p).aK _
    have k7:cD q p.size 3 [.i (k:Int)]:=cD.push p _ _
    have s7:q.size=p.size+1:=by simp[q]
    have F7:dm (λ_=>False) Y p Y q:=dm.eG _ F C6.new
    have C7:dm (λk=>k=2\/k=6) B L Y q:=C6.trans (dm.eG _ F C6.new)
    have ay:=W6.len
    simp[Ku]at ay
    have az:W.length<=h.length:=Gm _ _ ao λa o=>by have:=aj a o;omega
    refine iJ.append (zs:=[.i 0]) (c:=[.i (k:Int)]) (W6.eH F7 id) C7.new aL k7.iD (by simp only[O.gH];omega) λr a4 m8 a8 c8=>⟨(aJ (c8.mono λl hj=>Or.inr hj)).dq (by simp;exact⟨V,C4.new _ (ad _)⟩),?_⟩
    refine X V _ _ ⟨r,W++[k],C7.trans (c8.mono λl hj=>Or.inr hj),(A6.eH F7 id).eH c8 bn,by rw[KT];simpa using a8,?_,λa o=>?_,λa o=>?_,hO G⟩
    .rw[List.nodup_append]
     refine⟨ao,aL,λx T aB R u=>?_⟩
     simp at R;subst R;subst u;have:=aj _ T;omega
    .rcases List.mem_append.1 o with o|o
     .have:=aj a o;omega
     .simp at o;omega
    .rcases aW a k with R|R
     .rw[aH a R];simp;omega
     .have:a=k:=V
      subst this
      simp at D;simp[D]
   .refine X V _ _ ⟨Y,W,C6,A6,W6,ao,λa o=>oh (aj a o),λa o=>?_,hO G⟩
    rcases aW a k with R|R
    .exact aH a R
    .have:a=k:=V
     subst this
     simp at D
     simp only[D,false_iff]
     intro hm;have:=aj _ hm;omega
  refine⟨λC=>⟨V,V,_,by rw[eR];exact g6,λQ=>no (X4.trans K) λz=>?_,λQ=>⟨λD=>no (X4.trans K) λz=>?_,λD=>jQ λ_=>by simp at Q D;omega⟩⟩,λC=>jQ λQ=>by simp at C;omega⟩
  .have:=z.eu k e aa (by simpa using C);simp at Q;omega
  .have:=(z.cells e (aq aa)).hi;simp at D;omega
 have bf:k=h.length:=V;subst bf;clear X h4
 have bc:∀e∈h,oE h e:=λe s=>by
  let⟨a,o⟩:=List.mem_iff_getElem?.1 s;refine(ai e s).ok ?_;rcases Jk 0 e.aQ with N|N
  .exact(aE a e (aw o) o N).2
  .omega
 have bk:∀(a:Nat)(e:bN),h[a]? =some e->0<e.aQ->eu h a<=e.aQ:=λa e o N=>(aE a e (aw o) o N).1;have bh:∀mk a,ig mk 0 h a<=3*h.length:=λmk a=>by
  have:=Qc mk 0 h a;have:=Cf h a λe hm=>(ai e hm).fl;omega
 have K0:HD h (λ_=>false) W (ig (λ_=>false) 0 h):=⟨ao,λa o=>⟨aj a o,rfl⟩,λa o=>by rw[Es,aH a o];simp⟩;have c0:mH (λ_=>false) h.length=0:=by
  generalize h.length=c;induction c with
  |zero=>rfl
  |succ c K=>simp[mH,K]
 refine Sg (γ:=(Nat->Bool)×List Nat) (λK P a3 M=>∃b,a3=(mH K.1 h.length:Nat)/\dm (λk=>k=2\/k=6) B L b M/\iJ b M aA 1 2 A ((sZ h.length (ig K.1 0 h)).map Ce.i)/\iJ b M aA 1 6 P ((U0 K.2).map Ce.i)/\HD h K.1 K.2 (ig K.1 0 h)/\Tk h K.1)
  (λK=>h.length -mH K.1 h.length) (λ_=>false,W) ⟨Y,by rw[c0];rfl,C4,by rw[fD (g:=eu h) λj _=>Es 0 h j];exact A4,W4,K0,λ_=>0,aL,aL⟩ ?_
 clear C4 A4 W4 K0 c0 X4 ao aj aH aE;rintro⟨mk,W⟩ P a3 U I3 μ3 ⟨aa,rfl,C5,A5,W5,K5,O5⟩ X
 simp only at A5 W5 K5 O5 X
 have X5:=aM C5;have ay:=W5.len;simp[Ku]at ay;have bv:=K5.len;refine⟨λC=>?_,λC=>?_⟩
 .simp only[kH,ar]at C;have ah:W≠[]:=λu=>by subst u;simp at ay;omega
  obtain⟨W',a,rfl⟩:∃W' a,W=W'++[a]:=⟨W.dropLast,W.getLast ah,(ft ah).symm⟩;rw[KT]at W5;let⟨p1,p2,p3⟩:=W5.Vj;rw[Ku]at p1 p2 p3;have e1:cO ((P.len:Int) -1)=(W'.length:Int):=by rw[aP V V];omega
  let⟨az,aQ⟩:=K5.un a aL;let⟨e,aB⟩:=dB az;have ab:=aq aB;have be:=(ai e ab).fl;let⟨d,hf,g0,g1,g2⟩:=(cW.ext X5 y).aG aB;rw[e1,am];have bC:=W5.le;refine⟨V,V,a,p2,V,V,?_⟩;rw[am];refine⟨e.aQ,g0,e.kj,g1,d,g2,?_⟩;intro p q;have F:J U q:=((J.az U).aK _).ah (ad _) _ _;have s7:q.size=U.size+1:=by simp[q,p,av]
  clear_value q;have F7:dm (λ_=>False) aa U aa q:=dm.eG _ F C5.new;have C7:dm (λk=>k=2\/k=6) B L aa q:=C5.trans (dm.eG _ F C5.new);have bx:=hf.len;have hz:ig mk 0 h a=0:=(K5.zero a az).2 (Or.inr aL);have O7:=O5.set az aQ hz;have aT:=λx=>NY (mk:=mk) (e:=0) aB (by rw[bT];exact aQ) x;simp only[bT]at aT;have es:=zU aQ az;have bw:=FL (mO mk a) h.length;have K7:HD h (mO mk a) W' (λx=>ig (mO mk a) 0 h x+eB (e.aF.drop 0) x):=by
   have:=K5.Vj;refine⟨this.Lz,this.un,λx T=>?_⟩;rw[<-this.zero x T,aT,List.drop_zero];constructor<;>intro h<;>omega
  refine⟨V,V,V,ez (σ:=O) (n:=e.aF.length) V (λl wk M=>∃b W2,dm (λk=>k=2\/k=6) aa q b M/\iJ b M aA 1 2 A ((sZ h.length (λx=>ig (mO mk a) 0 h x+eB (e.aF.drop l) x)).map Ce.i)/\iJ b M aA 1 6 wk ((U0 W2).map Ce.i)/\HD h (mO mk a) W2 (λx=>ig (mO mk a) 0 h x+eB (e.aF.drop l) x))
   ⟨aa,W',dm.az _ C7.new,?_,?_,K7⟩ ?_⟩
  .have:=A5.eH F7 id;rw[fD (g:=ig mk 0 h) λj _=>by simp only[aT,List.drop_zero];omega];exact this
  .exact p3.eH F7 id
  rintro l wk m8 I4 μ4 hj ⟨r,W2,C8,A8,W8,K8⟩ aU;have X8:=aM (C7.trans C8);have T8:=aJ C8;have r7:U.size<m8.size/\r U.size=0:=⟨by have:=C8.size;omega,by rw[C8.gW _ V];exact C5.new _ (ad _)⟩;refine dit (λQ=>?_) λQ=>?_
  .let⟨w,H⟩:=cG e.aF l;have au:=aq H;have ba:=aS e ab w au;have a2:e.aF.drop l=w::e.aF.drop (l+1):=by
    rw[qv (aw H)];congr 1;exact(List.getElem?_eq_some_iff.1 H).2
   obtain⟨f0,aR,_,_,w2⟩:=y.aG aB;have er:f0=d:=by have:=X5.af w2;rw[g2]at this;exact(O.BR.1 (jN this)).symm
   subst er;refine⟨V,V,w,by simpa using(aR.ext X8).aG H,(iu (cW.ext X8 y) ba.2).mono ?_⟩;rintro _ m9 ⟨a4,b9,rfl,a0,bj,x9⟩;have z9:=x9.size;have F9:dm (λ_=>False) r m8 r m9:=dm.eG _ x9 C8.new;have C9:dm (λk=>k=2\/k=6) aa q r m9:=C8.trans (dm.eG _ x9 C8.new);have A9:=A8.eH F9 id;have W9:=W8.eH F9 id;refine⟨x9.dq bF,a4,b9,rfl,λD=>?_,λD=>?_⟩
   .have ag:=a0.1 D;have ac:=aw (bS ag).1;have e9:=bj D;subst e9;have ak:∀x,eB (e.aF.drop l) x=(if x=ix w then 1 else 0)+eB (e.aF.drop (l+1)) x:=λx=>by rw[a2,iW ag.1]
    have bb:=ak (ix w);rw[an rfl]at bb;have n1:=Gs (mO mk a) 0 h (ix w);have n2:=bh (mO mk a) (ix w);have n3:=iF (e.aF.drop (l+1)) (ix w);have n4:=kC (e.aF.drop (l+1)) (ix w);have n5:(e.aF.drop (l+1)).length<=3:=bF;let⟨u1,u2,u3⟩:=Xp (d:=λx=>ig (mO mk a) 0 h x+eB (e.aF.drop l) x) (g:=λx=>ig (mO mk a) 0 h x+eB (e.aF.drop (l+1)) x) A9 ac (v:=ig (mO mk a) 0 h (ix w)+eB (e.aF.drop (l+1)) (ix w)) (λj _=>by
     rw[ak];by_cases u:j=ix w
     .subst u;rw[an rfl]
     .rw[ae u,ae u];omega) C9.new
    refine⟨V,V,_,V2 A9 V ac,V,V,u1,?_⟩;rw[show cO (ig (mO mk a) 0 h (ix w)+eB (e.aF.drop l) (ix w) -1)=ig (mO mk a) 0 h (ix w)+eB (e.aF.drop (l+1)) (ix w)by rw[aP V V];omega];intro K;have ax:dm (λk=>k=2\/k=6) aa q r K:=C9.trans (u3.mono λk z=>Or.inl z);have bH:K.size=m9.size:=av _ _ _ _;have aK:iJ r K aA 1 6 wk ((U0 W2).map Ce.i):=W9.eH u3 bn;let⟨v1,v2⟩:=K8.nV (lf':=λx=>ig (mO mk a) 0 h x+eB (e.aF.drop (l+1)) x) ac (λx=>by
     rw[ak];split<;>omega) (show 0<ig (mO mk a) 0 h (ix w)+eB (e.aF.drop l) (ix w)by omega)
    have a8:To r m9 r K:=u3.mono λk z=>V;have aX:iJ r K aA 1 2 A ((sZ h.length (λx=>ig (mO mk a) 0 h x+eB (e.aF.drop (l+1)) x)).map Ce.i):=u2;clear_value K;clear u2;refine⟨a8.dq (by simp;exact⟨V,r7.2⟩),V,V,_,V2 aX V ac,λR=>?_,λR=>aU V _ _ ⟨r,W2,ax,aX,aK,v2 (by simpa using R)⟩⟩;intro al;have a7:J K al:=(J.az K).aK _;have bo:cD al K.size 3 [.i (ix w:Int)]:=cD.push K _ _;have bI:al.size=K.size+1:=by simp[al]
    have aZ:dm (λ_=>False) r K r al:=dm.eG _ a7 ax.new;have aY:dm (λk=>k=2\/k=6) aa q r al:=ax.trans (dm.eG _ a7 ax.new);have bg:=aK.len;simp[Ku]at bg;have bz:=K8.len;exact iJ.append (zs:=[.i 0]) (c:=[.i (ix w:Int)]) (aK.eH aZ id) aY.new aL bo.iD (by simp only[O.gH];omega) λbr q2 bG a9 aO=>⟨(aJ (aO.mono λl hj=>Or.inr hj)).dq (by simp;exact⟨V,r7.2⟩),aU V _ _ ⟨br,W2++[ix w],aY.trans (aO.mono λl hj=>Or.inr hj),(aX.eH aZ id).eH aO bn,by rw[KT];simpa using a9,v1 (by simpa using R)⟩⟩
   .have bi:w<1000:=(a1 e ab w au).resolve_left (fb a0 D);have ak:∀x,eB (e.aF.drop (l+1)) x=eB (e.aF.drop l) x:=λx=>by
     rw[a2];simp only[eB];rw[ae V];omega
    refine aU V _ _ ⟨r,W2,C9,?_,W9,⟨K8.Lz,K8.un,λx T=>by rw[ak];exact K8.zero x T⟩⟩;rw[fD (g:=λx=>ig (mO mk a) 0 h x+eB (e.aF.drop l) x) λj _=>by rw[ak]];exact A9
  .have K:e.aF.drop l=[]:=Jl V;have D:∀x,ig (mO mk a) 0 h x+eB (e.aF.drop l) x=ig (mO mk a) 0 h x:=λx=>by rw[K];simp[eB]
   rw[show cO ((mH mk h.length:Nat)+1:Int)=((mH (mO mk a) h.length:Nat):Int)by rw[es,aP V V];omega];refine X (mO mk a,W2) _ _ m8 ⟨r,rfl,C7.trans C8,?_,W8,⟨K8.Lz,K8.un,λx T=>by have:=K8.zero x T;rw[D]at this;exact this⟩,O7⟩ (by simp only[];omega)
   rw[fD (g:=λx=>ig (mO mk a) 0 h x+eB (e.aF.drop l) x) λj _=>(D j).symm];exact A8
 .simp only[kH,bE]at C;have p:W=[]:=List.length_eq_zero_iff.1 V;subst p;have q:=Vg O5 ag λa o l=>((K5.zero a o).1 l).resolve_right aL;refine⟨_,_,rfl,?_,λ_=>⟨m.size,rfl,ad _,a5 C5⟩,X5⟩;rw[aI,show((mH mk h.length:Nat):Int)=(N.len:Int)<->mH mk h.length=h.length by omega,q];exact⟨λo=>⟨bm,bc,bk,o⟩,λz=>z.MH⟩
end
section
variable{j:cT}{f:aY}{m d i:E}{r o e:O}{a b:Nat}
structure So(j:cT)(f:aY):Prop where
 fG:0<=f.fG/\f.fG<j.cF.length
 pc:0<=f.pc/\f.pc<(dO j f.fG).dp.length
 lr:(f.ak.length:Int)=(dO j f.fG).ak
 lo:(f.aR.length:Int)=(dO j f.fG).ak
 lh:(f.ba.length:Int)=(dO j f.fG).ak
 dz:∀(k:Nat)(w o:Int),f.ak[k]? =some w->f.aR[k]? =some o->(gP w\/1000<=w)/\(0<=o/\o<=999999)
def So.aR(h:So j f):∀o∈f.aR,0<=o/\o<=999999:=λo b=>by
 let⟨k,a⟩:=List.mem_iff_getElem?.1 b;have:=aw a;have d:=h.lr;have e:=h.lo;let⟨w,c⟩:=cG f.ak k;exact(h.dz k w o c a).2
def Ef{P Y:O}(R:fg m P Y j)(K:ap m r f.ak)(z:ap m o f.aR)(he:ap m e f.ba):
 dt cq 80 [.agg #[O.v P,O.v Y],.agg #[vi f.fG,vi f.pc,vi f.dst,O.v r,O.v o,O.v e]] m (So j f):=by
 apply yL
 simp -zeta only[aD,aC]
 intro L d
 have C:J m d:=((J.az m).aK _).aK _
 have s1:L.size=m.size+1:=by simp[L]
 have s2:d.size=m.size+2:=by simp[d,s1]
 clear_value d
 have aj:=R.cF.len
 have al:=K.len
 have ag:=z.len
 have ae:=he.len
 have am:=K.gV
 refine⟨λy=>bV (λa=>by have:=a.fG;simp at y;omega) C,λy=>⟨λD=>bV (λa=>by have:=a.fG;simp at D;omega) C,λD=>?_⟩⟩
 simp at y D
 let⟨ac,U⟩:=cG j.cF f.fG.toNat
 have h:dO j f.fG=ac:=by simp[dO,U]
 let⟨pa,pl,pc,ah,ak,aa,k0,k1,k2,k3,k4⟩:=(R.ext C).cF.aG U
 have ai:=aa.len
 refine⟨y,V,pa,k0,pl,k1,_,k2,_,k3,pc,k4,?_⟩
 intro m3 s
 have x4:J d s:=((J.az d).aK _).ah (ad _) _ _
 have s4:s.size=d.size+1:=by simp[s,m3,av]
 clear_value s
 have c:=C.trans x4
 have hl:∀b∈[d.size,L.size,m.size],b<s.size:=bF
 refine⟨λE=>bV (λa=>by have:=a.pc;simp at E;omega) c,λE=>⟨λF=>bV (λa=>by have:=a.pc;rw[h]at this;simp at F;omega) c,λF=>⟨λG=>bV (λa=>by have:=a.lr;rw[h]at this;simp at G;omega) c,λG=>⟨λH=>bV (λa=>by have:=a.lo;rw[h]at this;simp at H;omega) c,λH=>⟨λI=>bV (λa=>by have:=a.lh;rw[h]at this;simp at I;omega) c,λI=>?_⟩⟩⟩⟩⟩
 simp at E F G H I
 refine dT (n:=f.ak.length) V (λk m'=>J s m'/\∀(g:Nat)(w o:Int),g<k->f.ak[g]? =some w->f.aR[g]? =some o->(gP w\/1000<=w)/\(0<=o/\o<=999999)) ⟨J.az _,λg w o S=>absurd S (eX _)⟩ ?_
 rintro k X Z μ a ⟨N,W⟩ ab
 refine dit (λh8=>?_) λh8=>?_
 .let⟨w,i⟩:=cG f.ak k
  let⟨t,v⟩:=cG f.aR k
  refine⟨V,V,w,by simpa using(K.ext (c.trans N)).aG i,(qX w X).aH N hl λb6 q Q an x=>⟨b6,rfl,?_⟩⟩
  have T:af q o.D (o.off+Int.toNat (k:Int)*1)=some (vi t):=by simpa using(z.ext (c.trans x)).aG v
  have jQ:(gP w\/1000<=w)->(0:Int)<=k/\(k:Int)<(o.len:Int)/\∃M:Int,af q o.D (o.off+Int.toNat (k:Int)*1)=some (vi M)/\((decide (M<(0:Int)))=true->∃l:Bool,vb false=.bool l/\(l=true<->So j f)/\J m q)/\
   ((decide (M<(0:Int)))=false->(0:Int)<=k/\(k:Int)<(o.len:Int)/\∃p:Int,af q o.D (o.off+Int.toNat (k:Int)*1)=some (vi p)/\((decide (p>(999999:Int)))=true->∃l:Bool,vb false=.bool l/\(l=true<->So j f)/\J m q)/\
   ((decide (p>(999999:Int)))=false->Z (cO ((k:Int)+(1:Int))) q/\μ (cO ((k:Int)+(1:Int))) q<μ k X)):=λhi=>
   ⟨V,V,t,T,λp=>bV (λa=>by have:=(a.dz k w t i v).2;simp at p;omega) (c.trans x),λp=>⟨V,V,t,T,λl=>bV (λa=>by have:=(a.dz k w t i v).2;simp at l;omega) (c.trans x),λl=>ab V _ ⟨x,λg w' o' S B A=>by
    rcases aW g k with u|u
    .exact W g w' o' u B A
    .have:g=k:=V;subst this;rw[i]at B;rw[v]at A;simp at B A;subst B;subst A;simp at p l;exact⟨hi,V⟩⟩⟩⟩
  refine⟨λp=>⟨λl=>bV (λa=>?_) (c.trans x),λl=>jQ (Or.inr (by simp at l;omega))⟩,λp=>jQ (Or.inl (yb Q p))⟩
  rcases(a.dz k w t i v).1 with u|u
  .exact nb Q p u
  .simp at l;omega
 .refine iR ⟨V,by rw[h];omega,by rw[h];omega,by rw[h];omega,by rw[h];omega,λg w o i z=>W g w o (oh (aw i)) i z⟩ (c.trans N)
structure JM(a b:Nat)(m m':E):Prop where
 size:m.size<=m'.size
 same:∀c,c<m.size->c≠a->c≠b->m'[c]? =m[c]?
def JM.az(a b:Nat)(m:E):JM a b m m:=⟨ad _,λ_ _ _ _=>rfl⟩
def JM.ext{g:E}(h:JM a b m g)(f:J g d):JM a b m d:=⟨bI h.size f.size,λc e i j=>by rw[f.same c (aO e h.size)];exact h.same c e i j⟩
def JM.trans{j:E}(h:JM a b m j)(i:JM a b j d):JM a b m d:=⟨bI h.size i.size,λc g e f=>by rw[i.same c (aO g h.size) e f];exact h.same c g e f⟩
def JM.ah{d:E}(h:JM a b m d){c:Nat}(i:c=a\/c=b)(o:Nat)(l:List Ce):JM a b m (ah d c o l):=
 ⟨by rw[av];exact h.size,λx j f g=>by rw[bd l d c o (by rcases i with e|e<;>rw[e]<;>assumption)];exact h.same x j f g⟩
def JM.va{f:E}(h:JM a b m f)(c:J i m)(g:i.size<=a)(j:i.size<=b):J i f:=
 ⟨bI c.size h.size,λd e=>by rw[h.same d (c.lt e) V V];exact c.same d e⟩
structure W3(h:List bN)(f:aY):Prop where
 aR:∀(k:Nat)(w o:Int),f.ak[k]? =some w->f.aR[k]? =some o->0<o->gA h w
 ba:∀w∈f.ba,w≠0->1000<=w/\∃c,h[ix w]? =some c/\c.aQ<0
def Vo{w:Int}{n:Nat}(b:HB w)(f:n<=1000000000):(0<=cO (w -1000)/\cO (w -1000)<n)<->(1000<=w/\ix w<n):=by
 let⟨c,d⟩:=b;rcases Jk w (-9223372036854774808)with a|a
 .have e:cO (w -1000)=w -1000+18446744073709551616:=by
   unfold cO;rw[IntKind.wrap_i64];omega
  unfold ix;rw[e];constructor<;>intro h<;>omega
 .unfold ix;rw[aP V V];omega
structure Ow(m:E)(ob hb n:Nat)(fo fh:Nat->Int):Prop where
 aR:cD m ob aA ((sZ n fo).map Ce.i)
 ba:cD m hb aA ((sZ n fh).map Ce.i)
 ne:ob≠hb
def MT{hp:O}{h:List bN}{p c:Nat}{l fh:Nat->Int}(x0:J i m)(hh:cW i hp h)(hr:ap i r f.ak)(B:ap i o f.aR)(he:ap i e f.ba)(ai:i.size<=p)(ah:i.size<=c)(T:Ow m p c h.length l fh)
 (ag:Sk f)(ay:h.length<=1000000000)(au:f.ak.length=f.aR.length/\f.ba.length=f.aR.length/\f.aR.length<=10000000)(aj:∀o∈f.aR,0<=o/\o<=999999)(ar:∀a,0<=l a/\l a<=1000000000000000)(ao:∀a,0<=fh a/\fh a<=1000000000):
 aN cq 81 [.agg #[vi f.fG,vi f.pc,vi f.dst,O.v r,O.v o,O.v e],O.v hp,O.v (.mk p 0 h.length h.length),O.v (.mk c 0 h.length h.length)] m λv D=>
  ∃b:Bool,v=vb b/\(b=true<->W3 h f)/\(b=true->Ow D p c h.length (λa=>l a+de f.ak f.aR a) (λa=>fh a+eB f.ba a))/\JM p c m D:=by
 apply xf
 simp -zeta only[aD,aC]
 intro I
 have x1:J m I:=(J.az m).aK _
 have s1:I.size=m.size+1:=by simp[I]
 clear_value I
 have aJ:=hr.len
 have aH:=B.len
 have aF:=he.len
 have aG:=hh.len
 let⟨aA,aB,aE⟩:=au
 have aM:=T.aR.lt
 have aK:=T.ba.lt
 simp -zeta only[O.gH,O.jD,O.mZ,bT]
 have S:∀ac:Nat,Int.toNat (ac:Int)=ac:=λac=>V
 refine dT (n:=f.aR.length) V (λk D=>JM p c m D/\m.size<D.size/\Ow D p c h.length (λa=>l a+de (f.ak.take k) (f.aR.take k) a) (λa=>fh a+eB (f.ba.take k) a)/\(∀(j:Nat)(w o:Int),j<k->f.ak[j]? =some w->f.aR[j]? =some o->0<o->gA h w)/\
  (∀w∈f.ba.take k,w≠0->1000<=w/\∃s,h[ix w]? =some s/\s.aQ<0)) ⟨(JM.az _ _ _).ext x1,V,by simpa[de,eB]using(⟨T.aR.ext x1,T.ba.ext x1,T.ne⟩:Ow I p c h.length l fh),λj w o hj=>absurd hj (eX _),aL⟩ ?_
 rintro k d az μ hk ⟨t2,z2,q,q2,p2⟩ am
 have Q:=t2.va x0 ai ah
 rw[S,eR]
 refine dit (λh1=>?_) λh1=>?_
 .let⟨w,u⟩:=cG f.ak k
  let⟨t,C⟩:=cG f.aR k
  let⟨v,y⟩:=cG f.ba k
  have gw:∀{M:E},J i M->af M r.D (r.off+k)=some (vi w):=λH=>by simpa using(hr.ext H).aG u
  have gq:∀{M:E},J i M->af M o.D (o.off+k)=some (vi t):=λH=>by simpa using(B.ext H).aG C
  have gv:∀{M:E},J i M->af M e.D (e.off+k)=some (vi v):=λH=>by simpa using(he.ext H).aG y
  have al:=ag.2.2 v (aq y)
  have aI:=aj t (aq C)
  refine⟨V,V,t,gq Q,λM=>JM p c d M/\m.size<M.size/\Ow M p c h.length (λa=>l a+de (f.ak.take (k+1)) (f.aR.take (k+1)) a) (λa=>fh a+eB (f.ba.take k) a)/\(0<t->gA h w),⟨λW=>?_,λW=>?_⟩,?_⟩
  .have F:0<t:=by simpa using W
   refine⟨V,V,w,gw Q,(iu (cW.ext Q hh) (ag.1 w (aq u)).2).mono ?_⟩
   rintro _ m3 ⟨a,b3,rfl,N,U,z⟩
   have z3:=z.size
   refine⟨z.dq bF,a,b3,rfl,λx=>⟨false,rfl,?_,aL,t2.ext z⟩,λx=>?_⟩
   .simp only[js,false_iff]
    exactλht=>nb N x (ht.aR k w t u C F)
   have L:=yb N x
   have P:=aw (bS L).1
   have K:=U (by simpa using x)
   subst K
   have A:=q.aR.ext z
   have R:=q.ba.ext z
   have q1:=Gq (ak:=f.ak.take k) (aR:=f.aR.take k) (n:=999999) V (λo B=>aj o (dA B)) (ix w)
   have X:(f.aR.take k).length<=10000000:=bF
   have Y:=ar (ix w)
   rw[S,eR]
   refine⟨V,V,_,tV A P,V,V,Od A P,?_⟩
   rw[show cO (l (ix w)+de (f.ak.take k) (f.aR.take k) (ix w)+t)=l (ix w)+de (f.ak.take k) (f.aR.take k) (ix w)+t from aP V V]
   have G:=Jf A (ix w) (l (ix w)+de (f.ak.take k) (f.aR.take k) (ix w)+t)
   rw[fD (g:=λa=>l a+de (f.ak.take (k+1)) (f.aR.take (k+1)) a)]at G
   .exact⟨λb Z=>bd _ _ _ _ (by simp at Z;omega),((JM.az _ _ _).ext z).ah (Or.inl rfl) _ _,by rw[av];omega,⟨G,R.congr (bd _ _ _ _ λe=>q.ne e.symm),q.ne⟩,λ_=>L⟩
   .intro b c
    rw[tD u C]
    by_cases e:b=ix w
    .subst e;rw[an rfl,an (iv L.1).symm];omega
    .rw[ae e,ae (λab=>e (by rw[ab,lC]))];omega
  .have F:t=0:=by simp at W;omega
   refine⟨JM.az _ _ _,z2,⟨?_,q.ba,q.ne⟩,λhp=>V⟩
   rw[fD (g:=λa=>l a+de (f.ak.take k) (f.aR.take k) a)]
   .exact q.aR
   .intro b c;rw[tD u C,F];split<;>omega
  rintro m3 ⟨t3,z3,z,ax⟩
  have F:=t2.trans t3
  have R:=F.va x0 ai ah
  have hO:∀(j:Nat)(w o:Int),j<k+1->f.ak[j]? =some w->f.aR[j]? =some o->0<o->gA h w:=λj w' o' hj P N=>by
   rcases aW j k with A|A
   .exact q2 j w' o' A P N
   .have:j=k:=V;subst this;rw[u]at P;rw[C]at N;simp at P N;subst P;subst N;exact ax
  have aa:=Vo (n:=h.length) al ay
  refine⟨V,V,v,gv R,λx=>⟨V,V,v,gv R,?_⟩,λx=>?_⟩
  .have X:v≠0:=by simpa using x
   have ad:∀{M:E},JM p c m M->¬(1000<=v/\∃s,h[ix v]? =some s/\s.aQ<0)->∃b:Bool,vb false=vb b/\(b=true<->W3 h f)/\(b=true->Ow M p c h.length (λa=>l a+de f.ak f.aR a) (λa=>fh a+eB f.ba a))/\JM p c m M:=λht hn=>
    ⟨false,rfl,by simp only[js,false_iff];exactλhk=>hn (hk.ba v (aq y) X),aL,ht⟩
   refine⟨λL=>ad F λ⟨g1,s,g2,_⟩=>?_,λL=>⟨λY=>ad F λ⟨g1,s,g2,_⟩=>?_,λY=>?_⟩⟩
   .have:=(aa.2 ⟨g1,aw g2⟩).1;simp at L;omega
   .have:=(aa.2 ⟨g1,aw g2⟩).2;simp at Y;omega
   simp at L Y
   let⟨g1,g2⟩:=aa.1 ⟨L,V⟩
   have ew:cO (v -1000)=(ix v:Nat):=by have:=al.2;unfold ix;rw[aP V V];omega
   rw[ew,S]
   let⟨s,hc⟩:=dB g2
   obtain⟨cf,_,c0,_,_⟩:=(cW.ext R hh).aG hc
   refine⟨V,V,s.aQ,c0,λA=>ad F λ⟨_,c',U,g4⟩=>?_,λA=>?_⟩
   .rw[hc]at U;simp at U;subst U;simp at A;omega
   have q1:=ao (ix v)
   have q2:=kC (f.ba.take k) (ix v)
   have q3:=iF (f.ba.take k) (ix v)
   have q4:(f.ba.take k).length<=10000000:=bF
   rw[eR]
   refine⟨V,V,_,tV z.ba g2,V,V,Od z.ba g2,?_⟩
   rw[show cO (fh (ix v)+eB (f.ba.take k) (ix v)+1)=fh (ix v)+eB (f.ba.take k) (ix v)+1 from aP V V]
   have G:=Jf z.ba (ix v) (fh (ix v)+eB (f.ba.take k) (ix v)+1)
   rw[fD (g:=λa=>fh a+eB (f.ba.take (k+1)) a)]at G
   .refine⟨λb Z=>bd _ _ _ _ (by simp at Z;omega),am V _ ⟨F.ah (Or.inr rfl) _ _,by rw[av];exact z3,⟨z.aR.congr (bd _ _ _ _ q.ne),G,q.ne⟩,hO,bB y p2 λ_=>⟨g1,s,hc,by simp at A;omega⟩⟩⟩
   .intro b c
    rw[rD y]
    by_cases e:b=ix v
    .subst e;rw[an rfl,an (iv g1).symm];omega
    .rw[ae e,ae (λab=>e (by rw[ab,lC]))];omega
  .have X:v=0:=by simpa using x
   refine am V _ ⟨F,z3,⟨z.aR,?_,q.ne⟩,hO,bB y p2 λG=>absurd X G⟩
   rw[fD (g:=λa=>fh a+eB (f.ba.take k) a)]
   .exact z.ba
   .intro b c;rw[rD y,ae V];omega
 .have t:f.ak.take k=f.ak:=bX V
  have x:f.aR.take k=f.aR:=bX V
  have K:f.ba.take k=f.ba:=bX V
  rw[t,x,K]at q
  rw[K]at p2
  exact⟨true,rfl,by simp only[true_iff];exact⟨λj w o u B=>q2 j w o (oh (aw u)) u B,p2⟩,λ_=>q,t2⟩
end
section
def WQ(a:List aY)(k:Nat)(f:aY):Prop:=(nD a k=none->f.dst=0)/\∀p,nD a k=some p->0<=f.dst/\f.dst<p.aR.length/\aG p.aR f.dst=0
structure Te(im:cT)(s:St)(k:Nat)(f:aY):Prop where
 v:So im f
 dst:WQ s.ao k f
 Zr:W3 s.heap f
def Te.ok{c:cT}{s:St}{k:Nat}{f:aY}(h:Te c s k f):KC c s.heap (nD s.ao k) f:=
 ⟨h.v.fG,h.v.pc,h.v.lr,h.v.lo,h.v.lh,⟨λj w o b a=>⟨(h.v.dz j w o b a).1,(h.v.dz j w o b a).2,h.Zr.aR j w o b a⟩⟩,h.dst.1,h.dst.2⟩
def Nw.w{m:cT}{s:St}(h:Nw m s){k:Nat}{f:aY}(d:s.ao[k]? =some f):Te m s k f:=by
 have F:=h.ao k f d;refine⟨⟨F.fG,F.pc,F.lr,F.lo,F.lh,λj w o b c=>⟨(F.ak.dz j w o b c).1,(F.ak.dz j w o b c).2.1⟩⟩,⟨F.first,F.next⟩,λj w o b c=>(F.ak.dz j w o b c).2.2,λw b q=>?_⟩;let⟨g,n⟩:=(h.ba.cL f (aq d) w b).resolve_left q;let⟨e,i⟩:=dB n;refine⟨g,e,i,Int.not_le.1 λp=>?_⟩;have r:=h.ba.nm _ e i p;have t:=P1 (aq d) (b:=ix w);have u:=uL (l:=f.ba) (f:=ix w) (by rw[iv g];exact b);omega
section
variable{m:E}{d p aS c b:O}{a:cT}{s:St}
def Ek(aT:fg m d p a)(aZ:ns a)(Q:gC m aS c b s)(ab:yE s):dt cq 44 [.agg #[O.v d,O.v p],MD s aS c b] m (cY a s):=by
 apply yP;simp -zeta only[aD,aC];intro m1 L;have x2:J m L:=((J.az m).aK _).aK _;have s1:m1.size=m.size+1:=by simp[m1]
 have s2:L.size=m.size+2:=by simp[L,s1]
 clear_value L;have hl:∀x∈[m1.size,m.size],x<L.size:=bF;have aQ:=Q.ao.len;have a9:=Q.heap.len;have a_:=ab.lh;have t:∀{M:E},J L M->¬Nw a s->∃A:Bool,vb false=.bool A/\(A=true<->cY a s)/\J m M:=λhx I=>bV (λh=>I (OD h)) (x2.trans hx);have ar:(s.ao=[])<->((b.len:Int)=0):=by rw[aQ];simp
 refine⟨λM=>J L M/\(0<=s.cE/\s.cE<=3)/\(s.cE=0<->s.ao=[])/\gP s.value/\(s.value≠0->s.cE=0),?_,?_⟩
 .refine⟨λy=>t (J.az _) λi=>by have:=i.cE;simp at y;omega,λy=>⟨λv=>t (J.az _) λi=>by have:=i.cE;simp at v;omega,λv=>⟨λF=>t (J.az _) λi=>?_,λF=>?_⟩⟩⟩
  .have:=i.done;rw[ar,<-FG]at this;rw[this]at F;cases F
  have ah:0<=s.cE/\s.cE<=3:=by simp at y v;omega
  have ag:s.cE=0<->s.ao=[]:=by rw[ar];exact(FG _ _).1 F
  refine(qX _ _).aH (J.az _) hl λb3 m3 e C _=>⟨b3,rfl,λz=>t C λi=>nb e z i.value,λz=>⟨λf=>⟨λh=>t C λi=>?_,λh=>⟨C,ah,ag,yb e z,λ_=>by simpa using h⟩⟩,λf=>⟨C,ah,ag,yb e z,λh=>by simp at f;exact absurd f h⟩⟩⟩;have:=i.ua (by simpa using f);simp at h;exact h this
 rintro m3 ⟨C,ah,ag,hv,a2⟩;refine⟨λy=>t C λi=>by have:=i.dU;simp at y;omega,λy=>⟨λv=>t C λi=>by have:=i.dU;simp at v;omega,λv=>⟨λF=>t C λi=>by have:=i.bu;simp at F;omega,λF=>⟨λz=>t C λi=>by have:=i.bu;simp at z;omega,λz=>?_⟩⟩⟩⟩;have aV:0<=s.dU/\s.dU<=40:=by simp at y v;omega
 have aM:0<=s.bu/\s.bu<=s.dU:=by simp at F z;omega
 rw[aP V V];refine⟨λf=>t C λi=>by have:=i.depth;simp at f;omega,λf=>?_⟩;have aN:(s.ao.length:Int)<=s.bu+1:=by simp at f;omega
 clear y v F z f;have X3:=x2.trans C;refine(Cu (Q.ext X3).heap ab.heap V).mono ?_;rintro _ m4 ⟨ct,b4,rfl,ao,a1,aE⟩;have x4:=C.trans aE;have z4:=x4.size;have z3:=C.size;refine⟨aE.dq λx H=>C.lt (hl x H),ct,b4,rfl,λy=>t x4 λi=>nb ao y i.heap,λy=>?_⟩;have ax:=yb ao y;obtain⟨ob,rfl,bb,B4⟩:=a1 (by simpa using y);have bf:=B4.lt;refine(iY (Q.ext (x2.trans x4)).aS 79 #[] #[] bn (λai=>¬gP ai) (λai _ m' hx=>?_)).aH x4 hl ?_
 .apply wh;refine(qX _ _).then λx G H x5=>⟨x,rfl,eU ?_ x5⟩;rw[<-H];simp
 intro b5 G ap aF x5;have z5:=x5.size;have bg:=aF.size;refine⟨b5,rfl,λv=>t x5 λi=>?_,λv=>?_⟩
 .let⟨ai,hx,I⟩:=ap.1 v;exact I (i.aS ai hx)
 have a0:∀Z∈s.aS,gP Z:=λZ I=>dQ λB=>by have:=ap.2 ⟨Z,I,B⟩;rw[v]at this;cases this
 have en:Int.toNat (c.len:Int)=s.heap.length:=V;rw[en];refine⟨V,V,V,V,?_⟩;intro R;have aH:J G R:=(J.az G).aK _;have s6:R.size=G.size+1:=by simp[R]
 have H6:cD R G.size aA ((sZ s.heap.length (λ_=>0)).map Ce.i):=Mr G _;clear_value R;have x6:=x5.trans aH;have X6:=x2.trans x6;have T6:Ow R ob G.size s.heap.length (eu s.heap) (λ_=>0):=⟨B4.ext (aF.trans aH),H6,V⟩;have aX:m.size<=ob:=by have:=X3.size;omega
 have ak:∀Z:Nat,Int.toNat (Z:Int)=Z:=λZ=>V;have a8:s.ao.length<=41:=V;have rb:∀e,0<=eu s.heap e/\eu s.heap e<=3*s.heap.length:=λe=>⟨rf _ _,Cf _ _ λo B=>(ax.cells o B).fl⟩;refine dT (n:=s.ao.length) V (λj M=>JM ob G.size R M/\Ow M ob G.size s.heap.length (λe=>eu s.heap e+fA (s.ao.take j) e) (λe=>dG (s.ao.take j) e)/\∀(q:Nat)(l:aY),q<j->s.ao[q]? =some l->Te a s q l)
  ⟨JM.az _ _ _,by simpa[fA,dG]using T6,λq l K=>absurd K (eX _)⟩ ?_
 rintro j W a7 μ i ⟨t7,N,al⟩ a3
 have x7:J L W:=t7.va x6 V V;have P:=x2.trans x7;have bd:∀x∈[m1.size,m.size],x<W.size:=λx H=>x7.lt (hl x H);have z7:=x7.size;have be:=N.aR.lt;have bc:=N.ba.lt;rw[ak];refine dit (λF=>?_) λF=>?_
 .let⟨l,r⟩:=cG s.ao j;have au:=aq r;let⟨a5,a4,ac,hr,ho,U,g0,g1,g2,g3,g4,g5⟩:=Q.ao.aG r;refine⟨V,V,_,P.af g0,_,P.af g1,_,P.af g2,a5,P.af g3,a4,P.af g4,ac,P.af g5,?_⟩;intro X Y;have T:J W Y:=((J.az W).aK _).ah (ad _) _ _;have s9:Y.size=W.size+1:=by simp[Y,X,av]
  clear_value Y;have X9:=P.trans T;have l9:∀x∈[W.size,m1.size,m.size],x<Y.size:=bF;refine(Ef (aT.ext X9) (hr.ext X9) (ho.ext X9) (U.ext X9)).aH (J.az _) l9 λaJ w am D _=>⟨aJ,rfl,λz=>t ((x7.trans T).trans D) λi=>nb am z (i.w r).v,λz=>?_⟩;have hV:=yb am z;have S:=(x7.trans T).trans D;have ae:=x2.trans S;refine⟨λM=>w=M/\WQ s.ao j l,?_,?_⟩
  .have ay:(cO ((j:Int) -1)=((j -1:Nat):Int))\/j=0:=by
    rcases j8 j with f|f
    .exact Or.inr f
    .exact Or.inl (by rw[aP V V];omega)
   have jQ:0<j->((decide (l.dst<(0:Int)))=true->∃A:Bool,vb false=.bool A/\(A=true<->cY a s)/\J m w)/\((decide (l.dst<(0:Int)))=false->
    (0:Int)<=(cO ((j:Int) -(1:Int)))/\(cO ((j:Int) -(1:Int)))<(b.len:Int)/\
    ∃aa:O,af w b.D (b.off+Int.toNat (cO ((j:Int) -(1:Int)))*6+4)=some (O.v aa)/\
    ((decide (l.dst>=(aa.len:Int)))=true->∃A:Bool,vb false=.bool A/\(A=true<->cY a s)/\J m w)/\
    ((decide (l.dst>=(aa.len:Int)))=false->(0:Int)<=(cO ((j:Int) -(1:Int)))/\(cO ((j:Int) -(1:Int)))<(b.len:Int)/\
    ∃u:O,af w b.D (b.off+Int.toNat (cO ((j:Int) -(1:Int)))*6+4)=some (O.v u)/\
    (0:Int)<=l.dst/\l.dst<(u.len:Int)/\∃aj:Int,af w u.D (u.off+Int.toNat l.dst*1)=some (vi aj)/\
    ((aj !=(0:Int))=true->∃A:Bool,vb false=.bool A/\(A=true<->cY a s)/\J m w)/\((aj !=(0:Int))=false->w=w/\WQ s.ao j l))):=λaL=>by
    have e1:=ay.resolve_right V
    rw[e1,ak]
    obtain⟨q,rfl⟩:∃q,j=q+1:=⟨j -1,V⟩
    have ej:q+1 -1=q:=V
    rw[ej]
    let⟨pf,aj⟩:=cG s.ao q
    let⟨pr,po,pe,aO,an,aI,y0,y1,y2,y3,y4,y5⟩:=Q.ao.aG aj
    have aK:=an.len
    have aa:nD s.ao (q+1)=some pf:=aj
    refine⟨λf=>t S λi=>?_,λf=>⟨V,V,po,ae.af y4,λh=>t S λi=>?_,λh=>⟨V,V,po,ae.af y4,by simpa using f,by simp at h;omega,aG pf.aR l.dst,?_,λu=>t S λi=>?_,λu=>⟨rfl,⟨λI=>(by rw[aa]at I;cases I),λaB hq=>?_⟩⟩⟩⟩⟩
    .have:=((i.w r).dst.2 pf aa).1;simp at f;omega
    .have:=((i.w r).dst.2 pf aa).2.1;simp at h;omega
    .simp at f h
     exact(an.ext ae).pH f V
    .have:=((i.w r).dst.2 pf aa).2.2;simp at u;exact u this
    .rw[aa]at hq;simp at hq;subst hq
     simp at f h u;exact⟨f,V,u⟩
   refine⟨λf=>⟨λh=>t S λaz=>?_,λh=>⟨λu=>by simp at f u;omega,λu=>⟨rfl,⟨λ_=>by simpa using h,λaB hq=>?_⟩⟩⟩⟩,λf=>⟨λh=>jQ (by simp at h;omega),λh=>by simp at f h;omega⟩⟩
   .simp at f;subst f;have:=(az.w r).dst.1 rfl;simp at h;exact h this
   .simp at f;subst f;simp[nD]at hq
  .rintro _ ⟨rfl,hD⟩;have aU:=ab.lr l au;have v1:=hV.lr;have v2:=hV.lo;have v3:=hV.lh;have vG:=D.size;have aI:Ow w ob G.size s.heap.length (λe=>eu s.heap e+fA (s.ao.take j) e) (λe=>dG (s.ao.take j) e):=⟨N.aR.ext (T.trans D),N.ba.ext (T.trans D),N.ne⟩;have aR:∀e,0<=eu s.heap e+fA (s.ao.take j) e/\eu s.heap e+fA (s.ao.take j) e<=1000000000000000:=λe=>by
    have q1:=rb e;have q2:=Kx (a:=s.ao.take j) (n:=10000000) (k:=999999) V (λaa u=>⟨(ab.lr aa (dA u)).2.1,by
     let⟨q,K⟩:=List.mem_iff_getElem?.1 u;have aj:q<j:=by have:=aw K;simp at this;omega
     rw[dI aj]at K;exact(al q aa aj K).v.aR⟩) e
    have q3:(s.ao.take j).length<=41:=bF;omega
   have aO:∀e,0<=dG (s.ao.take j) e/\dG (s.ao.take j) e<=1000000000:=λe=>by
    have q2:=Lh (a:=s.ao.take j) (n:=10000000) (λaa u=>(ab.lr aa (dA u)).2.2) e;have q3:(s.ao.take j).length<=41:=bF;have q4:=vU (s.ao.take j) e;omega
   refine(MT (i:=m) ae Q.heap hr ho U aX V aI (ab.ao l au) V ⟨V,V,aU.2.1⟩ hV.aR aR aO).mono ?_;rintro _ ay ⟨aK,rfl,an,aL,az⟩;have aB:JM ob G.size R ay:=(t7.ext (T.trans D)).trans az;have a6:J L ay:=aB.va x6 V V;refine⟨λx H=>az.same x (D.lt (l9 x H)) (by simp at H;omega) (by simp at H;omega),aK,rfl,λf=>t a6 λi=>nb an f (i.w r).Zr,λf=>a3 V _ ⟨aB,?_,λq aa K u=>?_⟩⟩
   .have aj:=aL (by simpa using f);refine⟨?_,?_,aj.ne⟩
    .rw[fD (g:=λe=>eu s.heap e+fA (s.ao.take j) e+de l.ak l.aR e)]
     .exact aj.aR
     .intro x H;rw[NV r];omega
    .rw[fD (g:=λe=>dG (s.ao.take j) e+eB l.ba e)]
     .exact aj.ba
     .intro x H;rw[Li r]
   .rcases aW q j with h|h
    .exact al q aa h u
    .have:q=j:=V;subst this;rw[r]at u;simp at u;subst u;exact⟨hV,hD,yb an f⟩
 rw[bX V]at N;have hW:∀(q:Nat)(l:aY),s.ao[q]? =some l->Te a s q l:=λq l r=>al q l (oh (aw r)) r;refine dT (n:=s.heap.length) V (λj M=>J W M/\∀(e:Nat)(o:bN),e<j->s.heap[e]? =some o->(0<o.aQ->o.aQ=eu s.heap e+fA s.ao e)/\(o.aQ<0->dG s.ao e=1)) ⟨J.az _,λe o ha=>absurd ha (eX _)⟩ ?_;rintro u X I2 μ2 au ⟨x8,aj⟩ an;have X8:=P.trans x8;rw[ak];refine dit (λz=>?_) λz=>?_
 .have ae:u<s.heap.length:=V;let⟨o,aa⟩:=dB ae;obtain⟨l,_,g0,g1,g2⟩:=Q.heap.aG aa;refine⟨λM=>J X M/\(0<o.aQ->o.aQ=eu s.heap u+fA s.ao u)/\(o.aQ<0->dG s.ao u=1),?_,?_⟩
  .refine⟨V,V,_,X8.af g0,_,X8.af g1,l,X8.af g2,?_⟩;intro Y w;have D:J X w:=((J.az X).aK _).ah (ad _) _ _;clear_value w;have S:=(x7.trans x8).trans D;have go:=tV (N.aR.ext (x8.trans D)) ae;have gh:=tV (N.ba.ext (x8.trans D)) ae;simp -zeta only[O.gH,O.jD,O.mZ,bT,eR];have ba:(0<o.aQ->o.aQ=eu s.heap u+fA s.ao u)->((decide (o.aQ<(0:Int)))=true->(0:Int)<=u/\(u:Int)<(s.heap.length:Int)/\∃am:Int,af w G.size u=some (vi am)/\
    ((am !=(1:Int))=true->∃A:Bool,vb false=.bool A/\(A=true<->cY a s)/\J m w)/\((am !=(1:Int))=false->J X w/\(0<o.aQ->o.aQ=eu s.heap u+fA s.ao u)/\(o.aQ<0->dG s.ao u=1)))/\
    ((decide (o.aQ<(0:Int)))=false->J X w/\(0<o.aQ->o.aQ=eu s.heap u+fA s.ao u)/\(o.aQ<0->dG s.ao u=1)):=λB=>
    ⟨λf=>⟨V,V,_,gh,λh=>t S λi=>by have:=i.ba.lg u o aa (by simpa using f);simp at h;exact h this,λh=>⟨D,B,λ_=>by simpa using h⟩⟩,λf=>⟨D,B,λh=>by simp at f;omega⟩⟩
   refine⟨λf=>⟨V,V,_,go,λh=>t S λi=>?_,λh=>ba λ_=>by simpa using h⟩,λf=>ba λh=>by simp at f;omega⟩;have:=i.QV u o aa (by simpa using f);simp at h;exact h this
  .rintro Y ⟨T,w,D⟩;refine an V _ ⟨x8.trans T,λe ac ha U=>?_⟩;rcases aW e u with h|h
   .exact aj e ac h U
   .have:e=u:=V;subst this;rw[aa]at U;simp at U;subst U;exact⟨w,D⟩
 .refine iR (Mq ⟨aZ,ah,ag,hv,a2,aV,aM,aN,a0,ax,λq l r=>(hW q l r).ok,⟨λl r w h=>?_,λS o B I=>(aj S o (oh (aw B)) B).2 I,λS o B I=>?_⟩,λe o B c=>(aj e o (oh (aw B)) B).1 c⟩) X8
  .let⟨q,K⟩:=wi r;by_cases D:w=0
   .exact Or.inl D
   .obtain⟨y,o,v,_⟩:=(hW q l K).Zr.ba w h D;exact Or.inr ⟨y,aw v⟩
  .refine Lj λl r w h ac=>?_;let⟨q,K⟩:=wi r;let⟨y,D,v,F⟩:=(hW q l K).Zr.ba w h V;rw[ac,lC,B]at v;simp at v;subst v;omega
def tw(k:fg m d p a)(r:gC m aS c b s)(q:yE s):dt cq 21 [.agg #[O.v d,O.v p],MD s aS c b] m (cY a s):=by
 apply yI;simp -zeta only[aD,aC];intro i e;have f:J m e:=((J.az m).aK _).aK _;have t:i.size=m.size+1:=by simp[i]
 have x:e.size=m.size+2:=by simp[e,t]
 clear_value e;have l:∀n∈[i.size,m.size],n<e.size:=bF;refine(Eb (k.ext f)).aH (J.az _) l λb3 v j g _=>⟨b3,rfl,λh=>?_,λh=>bV (λo=>fb j h o.fy) (f.trans g)⟩;refine(Ek (k.ext (f.trans g)) (j.1 h) (r.ext (f.trans g)) q).aH g l λb4 w o y u=>⟨b4,rfl,eU o (f.trans u)⟩
end
end
end Go.Proofs.YtkoifinbblcbiaaGreat
section
namespace Go.Vc
def fR.kL{m:E}{b o:Nat}{l r:List Ce}(h:fR m b o l)(k:fR m b (o+l.length) r):fR m b o (l++r):=λi d a=>by
 rcases aW i l.length with c|c
 .rw[ax c]at a;exact h i d a
 .rw[aJ c]at a;have:=k _ d a;rwa[show o+l.length+(i -l.length)=o+i by omega]at this
def eT.Uf{α:Type}{m:E}{c:Nat}{R:List Ce->α->Prop}{s:O}{l:List α}(h:eT m c R s l)(j:∀d x,R d x->d.length=c):∃a,gS c R a l/\fR m s.D s.off a.flatten:=by
 have:∀k,k<=l.length->∃a,gS c R a (l.take k)/\fR m s.D s.off a.flatten:=by
  intro k;induction k with
  |zero=>intro _;exact⟨[],by simpa using gS.nil c R,λi e b=>by simp at b⟩
  |succ k o=>
   intro p;let⟨a,b,e⟩:=o V;let⟨x,g⟩:=cG l k;let⟨d,f,i⟩:=h.iD k x g;refine⟨a++[d],by rw[aU g];exact b.yV (j d x f) f,?_⟩;rw[qR];refine e.kL ?_;have n:a.flatten.length=k*c:=by rw[cw b.size,b.len,gL,jf V]
   rw[n];simpa using i
 let⟨a,b,e⟩:=this l.length (ad _);rw[fw]at b;exact⟨a,b,e⟩
end Go.Vc
namespace Go.Proofs.YtkoifinbblcbiaaGreat
open Go.Vc
variable{m:E}{s:O}{d:Nat->Nat}{N:Nat}{h:List bN}
def gY.DK{a:E}{l:List Ce}{e n:Nat}(f:gY m a e n s l)(j:J m a)(i:∀b,m.size<=b->d b=0)(k:Nat):∃c,dm (λ_=>False) d m c a/\iJ c a e n k s l/\∀b,c b=d b\/c b=k:=by
 rcases f.aG with h|⟨b,g,tail,h,h2,h3,h4,h5⟩
 .exact⟨d,dm.eG _ j i,iJ.gD f λo=>absurd h o,λb=>Or.inl rfl⟩
 .refine⟨oA d b k,dm.oA j i h2 h3.lt k,iJ.gD f λ_=>by rw[h];exact fJ _ _ _,λg=>?_⟩;by_cases e:g=b
  .rw[e];exact Or.inr (fJ _ _ _)
  .exact Or.inl (eV e)
def IA{z:O}(L:∀b,m.size<=b->d b=0)(H:∀b,b<m.size->d b≠3)(y:cW m z h)(hN:N<=m.size)(K:∀c∈h,c.aF.length<=3)(ac:h.length<=1000000000):
 aN cq 67 [O.v z] m λY l=>∃e s,Y=O.v s/\dL N e l s h/\dm (λk=>k=3) d m e l/\J m l:=by
 apply CM
 intro A
 have Z:J m A:=(J.az m).aK _
 clear_value A
 have hl:=y.len
 have X:∀{e:Nat->Nat}{M:E},dm (λk=>k=3) d m e M->J m M:=λc=>⟨c.size,λb a=>c.eA b a (H b a)⟩
 refine ez (σ:=O) (n:=h.length) V (λk s M=>∃e,dL N e M s (h.take k)/\dm (λk=>k=3) d m e M) ⟨d,⟨[],⟨aL,aL,Or.inl rfl⟩,by simpa using gS.nil _ _,Xx.nil⟩,dm.eG _ Z L⟩ ?_
 rintro k s T aa μ hk ⟨i,f,a⟩ U
 have v:=X a
 have en:Int.toNat (k:Int)=k:=V
 rw[en]
 refine dit (λG=>?_) λG=>?_
 .let⟨c,j⟩:=cG h k
  let⟨F,I,w,g1,g2⟩:=(cW.ext v y).aG j
  have ab:=K c (aq j)
  refine⟨V,V,c.aQ,w,V,V,c.kj,g1,V,V,F,g2,(gU I V).mono ?_⟩
  rintro _ g ⟨q,rfl,o,r⟩
  refine⟨q,rfl,r.da g1,r.da w,?_⟩
  intro b
  have t:J g b:=(J.az g).aK _
  have S:cD b g.size lZ [.i c.aQ,.i c.kj,.s q]:=cD.push g _ _
  clear_value b
  have p:=r.trans t
  have C:dm (λ_=>False) i T i b:=dm.eG _ p a.new
  have u:dm (λk=>k=3) d m i b:=a.trans (dm.eG _ p a.new)
  have R:ap b q c.aF:=(ap.gD o V).ext t
  have Q:c.aF≠[]->i q.D=0:=λP=>a.new _ ((FB.gD o P).1)
  have hz:=a.size
  refine dL.push (f.eH C id id) u.new (x:=.mk g.size 0 1 1) rfl S.iD R (Rr.of f (λB=>p.same _ (f.D B).2) (λ_=>o.ext t) Q V) bF λW ad m5 D B=>?_
  exact U V _ _ ⟨W,by rw[aU j];exact D,u.trans B⟩
 .rw[bX V]at f
  exact⟨i,s,rfl,f,a,v⟩
structure ZC(N:Nat)(d:Nat->Nat)(m:E)(r:O)(h:List bN)(css0 css:List (List Ce))(k:Nat):Prop where
 qt:iJ d m lZ 3 3 r css.flatten
 len:css.length=h.length
 size:∀cs∈css,cs.length=3
 done:∀(j:Nat)(cs:List Ce)(c:bN),j<k->css[j]? =some cs->h[j]? =some c->yg N d m cs c
 jQ:∀j,k<=j->css[j]? =css0[j]?
 sep:∀(i j:Nat)(ci cj:List Ce)(a b:O),i<k->j<k->css[i]? =some ci->css[j]? =some cj->ci[2]? =some (.s a)->cj[2]? =some (.s b)->i≠j->a.len≠0->b.len≠0->a.D≠b.D
def AA{a:List (List Ce)}{n:Nat}(d:s.len=n)(g:a.length=n)(k:∀b∈a,b.length=3)(j:fR m s.D s.off a.flatten)(t:n<=1000000000):
 aN cq 94 [O.v s] m λv c=>∃r,v=O.v r/\gY m c lZ 3 r a.flatten/\J m c:=by
 apply na
 refine⟨λh=>?_,λh=>?_⟩
 .cases s with
  |nil=>simp at d;have:a=[]:=List.length_eq_zero_iff.1 V;subst this;exact⟨.nil,rfl,gY.nil _ _ _ _,J.az _⟩
  |mk b o f e=>simp at h
  |zW b o e=>simp at h
 .intro e
  have b:J m e:=(J.az m).aK _
  have i:gY m e lZ 3 (.mk m.size 0 0 0) []:=gY.new (J.az m) lZ 3 [] 0 aL
  refine gY.append (zs:=[.i 0,.i 0,.s .nil]) (d:=a.flatten) i b (by rw[cw k,g,d];rfl) (b.iD j) bF λr c b f l o p q=>⟨r,rfl,by simpa using b,f⟩
def FZ{hp:O}(hn:∀b,m.size<=b->d b=0)(h3:∀b,b<m.size->d b≠3)(hh:cW m hp h)(hN:N<=m.size)(ay:∀c∈h,c.aF.length<=3)(aA:h.length<=1000000000):
 aN cq 57 [O.v hp] m λaF m'=>∃W s,aF=O.v s/\dL N W m' s h/\dm (λk=>k=3) d m W m'/\J m m':=by
 apply Ad
 simp -zeta only[aD,aC]
 have hl:=hh.len
 let⟨aa,u,jw⟩:=hh.Uf (λz an⟨af,e,_⟩=>by rw[e];rfl)
 refine(AA hl u.len u.size jw aA).mono ?_
 rintro _ m1 ⟨y,rfl,or,x1⟩
 obtain⟨g,C1,X,_⟩:=gY.DK or x1 hn 3
 have aK:y.len=h.length:=by have:=X.len;rw[cw u.size,u.len]at this;omega
 refine⟨y,rfl,?_⟩
 have aE:∀{W:Nat->Nat}{M:E},dm (λk=>k=3) d m W M->J m M:=λc=>⟨c.size,λb l=>c.eA b l (h3 b l)⟩
 refine dT (n:=h.length) V (λk M=>∃i,ZC N g M y h aa i k/\dm (λk=>k=3) d m g M) ⟨aa,⟨X,u.len,u.size,λj _ _ p=>absurd p (eX _),λ_ _=>rfl,λB _ _ _ _ _ D=>absurd D (eX _)⟩,C1.mono λ_=>False.elim⟩ ?_
 rintro k F aG μ hk ⟨i,a,v⟩ aB
 have X2:=aE v
 have en:Int.toNat (k:Int)=k:=V
 rw[en]
 refine dit (λR=>?_) λR=>?_
 .have ak:k<h.length:=V
  let⟨c,T⟩:=dB ak
  let⟨af,hf,g0,g1,g2⟩:=(cW.ext X2 hh).aG T
  have aJ:=ay c (aq T)
  refine⟨V,V,c.aQ,g0,c.kj,g1,af,g2,?_⟩
  intro m3 G
  have x4:J F G:=((J.az F).aK _).ah (ad _) _ _
  have s4:G.size=F.size+1:=by simp[G,m3,av]
  clear_value G
  refine(eN (hf.ext x4) V).mono ?_
  rintro _ H ⟨q,rfl,oq,x5⟩
  have K:dm (λ_=>False) g F g H:=dm.eG _ (x4.trans x5) v.new
  have Y:=a.qt.eH K id
  have aH:=a.len
  have ai:k*3+2+1<=i.flatten.length:=by rw[cw a.size];have:(k+1)*3<=i.length*3:=dg _ V;omega
  let⟨z,U⟩:=cG i k
  let⟨ae,ag⟩:=cG aa k (by rw[u.len];exact ak)
  have ao:z=ae:=by have:=a.jQ k (ad _);rw[U,ag]at this;simpa using this
  let⟨f0,ar,aI⟩:=u.dz k ae c ag T
  rw[ao,ar]at U
  have ax:y.cap≠0:=λe=>by have:=X.le;omega
  have rb:=Y.D ax
  have c6:∀am,dm (λk=>k=3) g H g (ah H y.D (y.off+(k*3+2)) am):=λam=>dm.ah K.new rb.2 _ _
  have au:g F.size=0:=v.new _ (ad _)
  refine⟨x5.dq bF,q,rfl,V,V,?_⟩
  rw[di]
  refine⟨Y.wr ai,?_⟩
  intro m6
  have I:=c6 [.s q]
  have ab:c.aF≠[]->g q.D=0/\G.size<=q.D:=λx=>by
   have:=(FB.gD oq x).1;exact⟨v.new _ V,this⟩
  have iq:ap H q c.aF:=ap.gD oq V
  have L6:yg N g m6 [.i c.aQ,.i c.kj,.s q] c:=yg.eH I bn _ _ ⟨q,rfl,iq,λx=>⟨(ab x).1,Ps ((ab x).2) v.size,(FB.gD oq x).2⟩⟩
  have ac:(i.set k [.i c.aQ,.i c.kj,.s q])[k]? =some [.i c.aQ,.i c.kj,.s q]:=dx (aw U)
  refine⟨(I.mono λk hk=>by omega:To g H g m6).dq (by simp;exact⟨by have:=x5.size;omega,au⟩),aB V _ ⟨i.set k [.i c.aQ,.i c.kj,.s q],⟨?_,by simpa using a.len,λZ w=>?_,λj Z Q p w hd=>?_,λj p=>?_,?_⟩,(v.trans (K.mono λ_=>False.elim)).trans I⟩⟩
  .have:=Y.set (o:=k*3+2) (new:=[.s q]) ai
   rw[Cm i k _ 2 [.s q] a.size U aL]at this
   exact this
  .rcases cA w with f|f
   .exact a.size Z f
   .rw[f];rfl
  .rcases aW j k with f|f
   .rw[cr V]at w
    exact yg.eH I bn _ _ (yg.eH K id _ _ (a.done j Z Q f w hd))
   .have:j=k:=V
    subst this
    rw[ac]at w
    simp at w;subst w
    rw[T]at hd;simp at hd;subst hd;exact L6
  .rw[cr V];exact a.jQ j V
  .have al:∀(j:Nat)(r:List Ce)(b:O),j<k->i[j]? =some r->r[2]? =some (.s b)->q.len≠0->b.len≠0->q.D≠b.D:=λj r b p t l f C=>by
    let⟨Q,hd⟩:=cG h j;obtain⟨b',e,ib,_⟩:=a.done j r Q p t hd;rw[e]at l;simp at l;subst l;have x:Q.aF≠[]:=λe=>by have:=ib.len;rw[e]at this;simp at this;exact C this
    have az:c.aF≠[]:=λe=>by have:=iq.len;rw[e]at this;simp at this;exact f this
    have:=iI ib x;have:=(ab az).2;omega
   intro B j P r L b D p A t S l aj f C
   by_cases ik:B=k
   .subst ik
    rw[ac]at A
    rw[cr aj]at t
    simp at A;subst A;simp at S;subst S
    exact al j r b V t l f C
   .rw[cr (λe=>ik e.symm)]at A
    by_cases jk:j=k
    .subst jk
     rw[ac]at t
     simp at t;subst t;simp at l;subst l
     exact kG (al B P L V A S C f)
    .rw[cr (λe=>jk e.symm)]at t
     exact a.sep B j P r L b V V A t S l aj f C
 .have e:∀{j:Nat}{z:List Ce},i[j]? =some z->j<k:=λp=>by have:=aw p;have:=a.len;omega
  exact⟨g,y,rfl,⟨i,a.qt,⟨a.len,a.size,λj z an R f=>a.done j z an (e R) R f⟩,λB j P r L b D p=>a.sep B j P r L b (e D) (e p) D p⟩,v,X2⟩
end Go.Proofs.YtkoifinbblcbiaaGreat
end
namespace Go.Proofs.YtkoifinbblcbiaaGreat
open Go.Vc
section
variable{a g:Nat->Nat}{m h e:E}{p:Nat->Prop}{s:St}{d:List (List Ce)}
structure Bs(e:E)(a:Nat->Nat)(m:E):Prop where
 cv:J e m
 jK:∀b,b<e.size->a b=0
 new:∀b,m.size<=b->a b=0
structure pC(e:E)(a:Nat->Nat)(m:E)(aS hp fr:O)(s:St):Prop where
 bs:Bs e a m
 aS:iJ a m aA 1 2 aS (s.aS.map Ce.i)
 heap:dL e.size a m hp s.heap
 ao:nJ a m fr s.ao
structure zL(s:St):Prop where
 aS:s.aS.length<=900000000
 fl:∀c∈s.heap,c.aF.length<=3
 heap:s.heap.length<=900000000
 depth:s.ao.length<=1000
 ao:∀f∈s.ao,f.ak.length<=1000000/\f.aR.length<=1000000/\f.ba.length<=1000000
def Vx(e:E)(a:Nat->Nat)(m:E)(s:St)(v:Value)(h:E):Prop:=∃g aS c b,v=MD s aS c b/\pC e g h aS c b s/\dm (λ_=>False) a m g h
abbrev WO:=dm (λk=>2<=k)
def WO.none(c:WO a m g h)(e:∀b,b<m.size->a b<=1):dm (λ_=>False) a m g h:=⟨c.size,c.gW,c.new,λb d _=>c.eA b d (oh (e b d))⟩
def dm.va(b:dm (λ_=>False) a m g h):J m h:=⟨b.size,λc d=>b.eA c d id⟩
def Bs.eH(B:Bs e a m)(b:dm (λ_=>False) a m g h):Bs e g h:=⟨B.cv.trans b.va,λc d=>by rw[b.gW c (B.cv.lt d)];exact B.jK c d,b.new⟩
def dm.aae(e:dm p a m g h){l:List Nat}(d:∀b∈l,b<m.size/\¬p (a b)):eF l m h:=λb c=>e.eA b (d b c).1 (d b c).2
structure Ux(e:E)(a:Nat->Nat)(m:E)(g:Nat->Nat)(M:E)(q r:O)(s:St):Prop where
 eH:WO a m g M
 aS:iJ g M aA 1 2 q (s.aS.map Ce.i)
 heap:dL e.size g M r s.heap
def Ux.nV{i j:Nat->Nat}{f g:E}{q r:O}(h:Ux e a m i f q r s)(d:dm p i f j g)(c:∀k,p k->4<=k):Ux e a m j g q r s:=
 ⟨h.eH.trans (d.mono λk b=>oh (c k b)),h.aS.eH d λb=>oh (c _ b),h.heap.eH d (λb=>oh (c _ b)) λb=>oh (c _ b)⟩
def yU{s:O}{n:Nat}(c:s.len=n)(g:d.length=n)(k:∀a∈d,a.length=6)(j:fR m s.D s.off d.flatten)(t:n<=1000000000):
 aN cq 58 [O.v s] m λv h=>∃r,v=O.v r/\gY m h dP 6 r d.flatten/\J m h:=by
 apply mJ
 refine⟨λb=>?_,λb=>?_⟩
 .cases s with
  |nil=>simp at c;have:d=[]:=List.length_eq_zero_iff.1 V;subst this;exact⟨.nil,rfl,gY.nil _ _ _ _,J.az _⟩
  |mk a o f e=>simp at b
  |zW a o e=>simp at b
 .intro e
  have a:J m e:=(J.az m).aK _
  have i:gY m e dP 6 (.mk m.size 0 0 0) []:=gY.new (J.az m) dP 6 [] 0 aL
  refine gY.append (zs:=[.i 0,.i 0,.i 0,.s .nil,.s .nil,.s .nil]) (d:=d.flatten) i a (by rw[cw k,g,c];rfl) (a.iD j) bF λr h a f l o p q=>⟨r,rfl,by simpa using a,f⟩
structure ZA(a:Nat->Nat)(m:E)(r:O)(fs:List aY)(css0 d:List (List Ce))(k:Nat):Prop where
 qt:iJ a m dP 6 4 r d.flatten
 len:d.length=fs.length
 size:∀cs∈d,cs.length=6
 done:∀(j:Nat)(cs:List Ce)(f:aY),j<k->d[j]? =some cs->fs[j]? =some f->Td a m j cs f
 jQ:∀j,k<=j->d[j]? =css0[j]?
def Rj{k o:Nat}{a:List Ce}{x:Ce}(e:∀a∈d,a.length=6)(b:d[k]? =some a)(g:o<6):je d.flatten (k*6+o) [x]=(d.set k (a.set o x)).flatten/\(∀c∈d.set k (a.set o x),c.length=6)/\(d.set k (a.set o x))[k]? =some (a.set o x):=by
 refine⟨Cm d k a o [x] e b bF,λc f=>?_,dx (aw b)⟩;rcases cA f with h|h
 .exact e c h
 .rw[h,dZ];exact e a (aq b)
def Ee{aS hp w:O}(al:Bs e a m)(az:∀c,a c<=1)(T:gC m aS hp w s)(ae:zL s):aN cq 32 [MD s aS hp w] m (Vx e a m s):=by
 apply yK;simp -zeta only[aD,aC];intro h A;have s1:h.size=m.size+1:=by simp[h]
 have s2:A.size=m.size+2:=by simp[A,s1]
 have x2:J m A:=((J.az m).aK _).aK _;obtain⟨G,ao⟩:∃G,G=oA (oA a m.size 8) h.size 8:=⟨_,rfl⟩;have C2:dm (λ_=>False) a m G A:=by
  rw[ao];exact(dm.oA (m':=h) (k:=8) ((J.az m).aK _) al.new (ad _) V).trans (dm.oA (m':=A) (k:=8) ((J.az h).aK _) (λc hb=>by rw[eV V];exact al.new c V) (ad _) V)
 have r0:G m.size=8/\G h.size=8:=by rw[ao];exact⟨by rw[eV V,fJ],fJ _ _ _⟩
 have a2:∀c,G c=8\/G c<=1:=λc=>by
  rw[ao];unfold oA;split
  .exact Or.inl rfl
  .split
   .exact Or.inl rfl
   .exact Or.inr (az c)
 have aZ:cD A h.size iz [.i 0,.i 0,.i 0,.i 0,.s .nil,.s .nil,.s .nil]:=cD.push h _ _;have bq:cD A m.size iz [.i s.cE,.i s.value,.i s.bu,.i s.dU,.s aS,.s hp,.s w]:=(cD.push m _ _).ext (J.push h _);clear_value A;clear ao;have hN:=al.cv.size;have bo:=ae.aS;have bm:=ae.heap;have bi:=ae.depth;refine(eN (T.aS.ext x2) V).mono ?_;rintro _ m3 ⟨ai,rfl,oq,H⟩;let⟨ba,C3,A3,a3⟩:=gY.DK oq H C2.new 2;have z3:=H.size;have kp:∀{M M':E},J M M'->m.size<M.size->∀i,af M' m.size i=af M m.size i:=λhx ac i=>aE (hx.same _ ac) i;have X3:=x2.trans H;refine⟨H.dq bF,ai,rfl,kp H V _,kp H V _,(FZ (N:=e.size) C3.new (λc _=>Ps (a3 c) (a2 c)) (T.ext X3).heap V ae.fl V).mono ?_⟩;rintro _ m4 ⟨bb,aj,rfl,H4,Y,x4⟩;have z4:=x4.size;have X4:=X3.trans x4;have K4:Ux e a m bb m4 ai aj s:=⟨((C2.trans C3).mono λ_=>False.elim:WO a m ba m3).trans (Y.mono λb R=>V),A3.eH Y bn,H4⟩;have aY:=T.ao.len;let⟨an,q,jw⟩:=(T.ext X4).ao.Uf (λQ ak⟨_,_,_,t,_⟩=>by rw[t];rfl);refine⟨x4.dq bF,aj,rfl,kp x4 V _,(yU aY q.len q.size jw V).mono ?_⟩;rintro _ m5 ⟨fc,rfl,of,x5⟩;let⟨u,K,A5,br⟩:=gY.DK of x5 Y.new 4;have z5:=x5.size;have K5:=K4.nV K λ_=>False.elim;refine⟨x5.dq bF,fc,rfl,?_⟩;intro m6 m7 F;have r5:u m.size=8/\u h.size=8:=⟨by rw[K.gW _ V,Y.gW _ V,C3.gW _ V];exact r0.1,by rw[K.gW _ V,Y.gW _ V,C3.gW _ V];exact r0.2⟩;have C8:dm (λb=>b=8) u m5 u F:=((dm.ah K.new (show(λb=>b=8) (u m.size)from r5.1) _ _).trans (dm.ah (by rw[av];exact K.new) (show(λb=>b=8) (u m.size)from r5.1) _ _)).trans (dm.ah (by rw[av,av];exact K.new) (show(λb=>b=8) (u m.size)from r5.1) _ _);have K8:Ux e a m u F ai aj s:=K5.nV C8 λb R=>V;have A8:iJ u F dP 6 4 fc an.flatten:=A5.eH C8 bn;have a0:cD F h.size iz [.i 0,.i 0,.i 0,.i 0,.s .nil,.s .nil,.s .nil]:=((aZ.ext (H.trans (x4.trans x5))).congr (by
  show(ah (ah (ah m5 m.size 4 _) m.size 5 _) m.size 6 _)[h.size]? =_;rw[bd _ _ _ _ V,bd _ _ _ _ V,bd _ _ _ _ V]))
 have s8:F.size=m5.size:=by simp[F,m7,m6,av]
 clear_value F;have bk:fc.len=s.ao.length:=by have:=A8.len;rw[cw q.size,q.len]at this;omega
 refine dT (n:=s.ao.length) V (λb M=>∃g d,Ux e a m g M ai aj s/\ZA g M fc s.ao an d b/\m5.size<=M.size/\g m.size=8/\g h.size=8/\cD M h.size iz [.i 0,.i 0,.i 0,.i 0,.s .nil,.s .nil,.s .nil])
  ⟨u,an,K8,⟨A8,q.len,q.size,λy _ _ hj=>absurd hj (eX _),λ_ _=>rfl⟩,V,r5.1,r5.2,a0⟩ ?_
 rintro b l bc μ R ⟨B,d,Z,f,z9,r9,aJ,a1⟩ a6
 have en:Int.toNat (b:Int)=b:=V;rw[en];have aQ:∀{g:Nat->Nat}{M:E},WO a m g M->J m M:=λaO=>(aO.none λc _=>az c).va;refine dit (λh1=>?_) λh1=>?_
 .have aI:b<s.ao.length:=V;let⟨j,hf⟩:=dB aI;have bj:=ae.ao j (aq hf);let⟨aP,ab⟩:=cG an b (by rw[q.len];exact aI);let⟨ra,oa,ha,e0,ir,io,ih⟩:=q.dz b aP j ab hf;have aH:d[b]? =some [.i j.fG,.i j.pc,.i j.dst,.s ra,.s oa,.s ha]:=by rw[f.jQ b (ad _),ab,e0]
  have S:∀(i:Nat)(ak:Ce),[Ce.i j.fG,.i j.pc,.i j.dst,.s ra,.s oa,.s ha][i]? =some ak->af l fc.D (fc.off+b*6+i)=some ak.v:=λi ak hx=>by
   have:=f.qt.iD (b*6+i) ak (fY f.size aH hx);rwa[<-di]at this
  obtain⟨r',o',h',jr,jo,jh,_,_,_,y3,y4,y5⟩:=T.ao.aG hf;have X9:=aQ Z.eH;have er:r'=ra/\o'=oa/\h'=ha:=by
   obtain⟨bf,⟨be,b1,c1,e1,_⟩,bp⟩:=T.ao.iD b j hf;have g3:af m4 w.D (w.off+b*6+3)=some (O.v ra):=by
    have:=jw (b*6+3) (.s ra) (fY q.size ab (by rw[e0];rfl));rwa[<-di]at this
   have g4:af m4 w.D (w.off+b*6+4)=some (O.v oa):=by
    have:=jw (b*6+4) (.s oa) (fY q.size ab (by rw[e0];rfl));rwa[<-di]at this
   have g5:af m4 w.D (w.off+b*6+5)=some (O.v ha):=by
    have:=jw (b*6+5) (.s ha) (fY q.size ab (by rw[e0];rfl));rwa[<-di]at this
   rw[X4.af y3]at g3;rw[X4.af y4]at g4;rw[X4.af y5]at g5;exact⟨O.BR.1 (jN g3),O.BR.1 (jN g4),O.BR.1 (jN g5)⟩
  obtain⟨rfl,rfl,rfl⟩:=er;refine⟨V,V,_,S 0 _ rfl,_,S 1 _ rfl,_,S 2 _ rfl,_,S 3 _ rfl,_,S 4 _ rfl,_,S 5 _ rfl,?_⟩;intro aA U;have ar:J l U:=((J.az l).aK _).ah (ad _) _ _;have bw:U.size=l.size+1:=by simp[U,aA,av]
  clear_value U;have aG:dm (λ_=>False) B l (oA B l.size 8) U:=dm.oA ar Z.eH.new (ad _) V 8;refine(eN (jr.ext (X9.trans ar)) V).mono ?_;rintro _ bs ⟨qr,rfl,a7,v⟩;obtain⟨bu,ay,aK,_⟩:=gY.DK a7 v aG.new (10+3*b);have bz:=v.size;have p:∀{M M':E}{c:Nat},J M M'->c<M.size->∀i,af M' c i=af M c i:=λhx ac i=>aE (hx.same _ ac) i;have bl:∀{M:E},U.size<=M.size->∀c∈[l.size,m.size,h.size],c<M.size:=λbg c hb=>by simp at hb;omega
  refine⟨v.dq (bl (ad _)),qr,rfl,p v V _,p v V _,p v V _,p v V _,p v V _,(eN (jo.ext (X9.trans (ar.trans v))) V).mono ?_⟩;rintro _ bt ⟨qo,rfl,a8,C⟩;obtain⟨bv,am,aL,_⟩:=gY.DK a8 C ay.new (11+3*b);have bA:=C.size;refine⟨C.dq (bl V),qo,rfl,p C V _,p C V _,p C V _,p C V _,(eN (jh.ext (X9.trans (ar.trans (v.trans C)))) V).mono ?_⟩;rintro _ aB ⟨qh,rfl,a9,X⟩;obtain⟨r,D,aM,_⟩:=gY.DK a9 X am.new (12+3*b);have bB:=X.size;have L:dm (λ_=>False) B l r aB:=((aG.trans ay).trans am).trans D;have P:r l.size=8/\r m.size=8/\r h.size=8:=⟨by rw[D.gW _ V,am.gW _ V,ay.gW _ V];exact fJ _ _ _,by rw[L.gW _ V];exact r9,by rw[L.gW _ V];exact aJ⟩;have A9:=f.qt.eH L id;have aX:fc.cap≠0:=λt=>by have:=f.qt.le;omega
  have W:=A9.D aX;have a_:fc.D≠m.size/\fc.D≠h.size/\fc.D≠l.size:=⟨λt=>by have:=W.2;rw[t,P.2.1]at this;omega,λt=>by have:=W.2;rw[t,P.2.2]at this;omega,λt=>by have:=W.2;rw[t,P.1]at this;omega⟩;have bh:=f.len;have vh:∀z,z<6->b*6+z+1<=d.flatten.length:=λz ho=>by rw[cw f.size];have:(b+1)*6<=d.length*6:=dg _ V;omega
  have sm:∀{M:E}(z:Nat)(ag:List Ce),eF [l.size,m.size,h.size] M (ah M fc.D z ag):=λz ag c hb=>bd _ _ _ _ (by simp at hb;omega);have gg:∀{M:E}(z:Nat)(ag:List Ce)(i:Nat),af (ah M fc.D z ag) m.size i=af M m.size i:=λz ag i=>aE (bd _ _ _ _ (λt=>a_.1 t.symm)) i;refine⟨X.dq (bl V),qh,rfl,p X V _,p X V _,p X V _,V,V,?_⟩;simp -zeta only[di];refine⟨A9.wr (vh 3 bn),?_⟩;let⟨e1,f1,aT⟩:=Rj (x:=.s qr) (o:=3) f.size aH bn;have au:=A9.set (o:=b*6+3) (new:=[.s qr]) (vh 3 bn);rw[e1]at au;intro a4;let⟨e2,f2,aU⟩:=Rj (x:=.s qo) (o:=4) f1 aT bn;have ax:=au.set (o:=b*6+4) (new:=[.s qo]) (by have:=vh 4 bn;rw[cw f.size]at this;rw[cw f1,dZ];exact this);rw[e2]at ax;refine⟨sm _ _,gg _ _ _,gg _ _ _,V,V,au.wr (by have:=vh 4 bn;rw[cw f.size]at this;rw[cw f1,dZ];exact this),?_⟩;intro a5;let⟨e3,f3,aV⟩:=Rj (x:=.s qh) (o:=5) f2 aU bn;have aF:=ax.set (o:=b*6+5) (new:=[.s qh]) (by have:=vh 5 bn;rw[cw f.size]at this;rw[cw f2,dZ,dZ];exact this);rw[e3]at aF;refine⟨sm _ _,gg _ _ _,V,V,ax.wr (by have:=vh 5 bn;rw[cw f.size]at this;rw[cw f2,dZ,dZ];exact this),?_⟩;intro ap;have I:dm (λb=>b=4) r aB r ap:=((dm.ah D.new (show(λb=>b=4) (r fc.D)from W.2) _ _).trans (dm.ah (by rw[av];exact D.new) (show(λb=>b=4) (r fc.D)from W.2) _ _)).trans (dm.ah (by rw[av,av];exact D.new) (show(λb=>b=4) (r fc.D)from W.2) _ _);have bx:ap.size=aB.size:=by simp[ap,a5,a4,av]
  have tf:Td r ap b [.i j.fG,.i j.pc,.i j.dst,.s qr,.s qo,.s qh] j:=⟨qr,qo,qh,rfl,(((aK.eH am id).eH D id).eH I V),(aL.eH D id).eH I V,aM.eH I V⟩;refine⟨sm _ _,a6 V _ ⟨r,_,(Z.nV L λ_=>False.elim).nV I λb R=>V,⟨aF,by simp;exact f.len,f3,λy Q aR hj aa hg=>?_,λy hj=>?_⟩,V,P.2.1,P.2.2,(a1.ext L.va).congr (I.eA _ V (by rw[P.2.2];decide))⟩⟩
  .rcases aW y b with h5|h5
   .rw[cr V,cr V,cr V]at aa;exact((f.done y Q aR h5 aa hg).eH L λ_ _ _=>id).eH I λb R _=>V
   .have:y=b:=V;subst this;rw[aV]at aa;simp at aa;subst aa;rw[hf]at hg;simp at hg;subst hg;exact tf
  .rw[cr V,cr V,cr V];exact f.jQ y V
 .intro aA;have r:dm (λb=>b=8) B l B aA:=dm.ah Z.eH.new (show(λb=>b=8) (B h.size)from aJ) _ _;have p:=Z.nV r λb R=>V;have ac:∀{y:Nat}{Q:List Ce},d[y]? =some Q->y<b:=λhj=>by have:=aw hj;have:=f.len;omega
  have v:nJ B l fc s.ao:=⟨d,f.qt,f.len,f.size,λi Q j h1 t=>f.done i Q j (ac h1) h1 t⟩;have D:=p.eH.none λc _=>az c;exact⟨B,ai,aj,fc,rfl,⟨al.eH D,p.aS,p.heap,v.eH r λb R=>V⟩,D⟩
end
section
variable{d:Nat->Nat}{e:E}
abbrev z7:List Ce:=[.i 0,.i 0,.i 0,.i 0,.s .nil,.s .nil,.s .nil]
structure Nx(m0:E)(ro:Nat->Nat)(m m2:E)(s:St)(ro':Nat->Nat)(M:E)(q r:Option O)(ob:Option Nat):Prop where
 eH:WO ro m ro' M
 ext:J m2 M
 Zo:r=none->∀b,ro' b≠3
 box:∀b,m.size<=b->b<m2.size->ro' b=8
 aS:∀x,q=some x->iJ ro' M aA 1 2 x (s.aS.map Ce.i)
 heap:∀x,r=some x->dL m0.size ro' M x s.heap
 ob:∀x,ob=some x->m2.size<=x/\ro' x=8/\cD M x iz z7
section
variable{h:E}{i:Nat->Nat}{m g:E}{s:St}{f:Nat->Nat}{M:E}{q r:Option O}{j:Option Nat}
def Nx.hO(k:Nx h i m g s f M q r j)(n:dm (λa=>a=3) f M d e)(p:J M e)(C:∀b,m.size<=b->b<g.size->d b=8){u o:Option O}{t:Option Nat}(z:r=none\/dm (λ_=>False) f M d e)(B:o=none->∀b,d b≠3)
 (w:∀x,u=some x->q=some x\/iJ d e aA 1 2 x (s.aS.map Ce.i))(y:∀x,o=some x->r=some x\/dL h.size d e x s.heap)(A:∀x,t=some x->j=some x\/(g.size<=x/\d x=8/\cD e x iz z7)):Nx h i m g s d e u o t:=
 ⟨k.eH.trans (n.mono λa c=>V),k.ext.trans p,B,C,λx c=>(w x c).elim (λa=>(k.aS x a).eH n bn) id,
  λx c=>(y x c).elim (λa=>z.elim (λl=>by rw[l]at a;cases a) λl=>(k.heap x a).eH l id id) id,
  λx c=>(A x c).elim (λa=>by
   let⟨v,b,l⟩:=k.ob x a;exact⟨v,by rw[n.gW _ l.lt];exact b,l.ext p⟩) id⟩
def Nx.RU(a:Nx h i m g s f M q r j){p:Nat->Prop}(l:dm p f M d e):∀b,m.size<=b->b<g.size->d b=8:=λb k c=>by rw[l.gW b (a.ext.lt c)];exact a.box b k c
def Nx.c(b:Nx h i m g s f M none r j){x:O}(n:gY M e aA 1 x (s.aS.map Ce.i))(k:J M e):∃d,Nx h i m g s d e (some x) r j:=by
 let⟨d,C,A,l⟩:=gY.DK n k b.eH.new 2;exact⟨d,b.hO (C.mono λ_=>False.elim) k (b.RU C) (Or.inr C) (λa c=>Ps (l c) (b.Zo a c)) (λy a=>Or.inr (by simp at a;subst a;exact A)) (λy a=>Or.inl a) λy a=>Or.inl a⟩
def Nx.a(b:Nx h i m g s f M q r j)(c:J M e):Nx h i m g s f e q r j:=
 have C:dm (λ_=>False) f M f e:=dm.eG _ c b.eH.new
 b.hO (C.mono λ_=>False.elim) c (b.RU C) (Or.inr C) b.Zo (λy a=>Or.inl a) (λy a=>Or.inl a) λy a=>Or.inl a
def Nx.b(b:Nx h i m g s f M q r none){e:E}(a:e=M.push (.cells (bt z7) iz)):∃d,Nx h i m g s d e q r (some M.size):=by
 have l:J M e:=by rw[a];exact J.push _ _
 have C:dm (λ_=>False) f M (oA f M.size 8) e:=dm.oA l b.eH.new (ad _) (by rw[a];simp) 8;refine⟨_,b.hO (C.mono λ_=>False.elim) l (b.RU C) (Or.inr C) (λn c=>?_) (λy a=>Or.inl a) (λy a=>Or.inl a) λy j=>Or.inr ?_⟩
 .by_cases k:c=M.size
  .rw[k,fJ];decide
  .rw[eV k];exact b.Zo n c
 .simp at j;subst j;exact⟨b.ext.size,fJ _ _ _,by rw[a];exact cD.push _ _ _⟩
end
def pY{w:E}{u:Nat->Nat}{a:E}{aS hp fr:O}{s:St}(aj:Bs w u a)(au:∀c,u c<=1)(hs:gC a aS hp fr s)(ag:zL s):aN cq 35 [MD s aS hp fr] a (Vx w u a s):=by
 apply AO;simp -zeta only[aD,aC];intro v i;have s1:v.size=a.size+1:=by simp[v]
 have s2:i.size=a.size+2:=by simp[i,s1]
 have x2:J a i:=((J.az a).aK _).aK _;obtain⟨d,an⟩:∃d,d=oA (oA u a.size 8) v.size 8:=⟨_,rfl⟩;have C2:dm (λ_=>False) u a d i:=by
  rw[an];exact(dm.oA (m':=v) (k:=8) ((J.az a).aK _) aj.new (ad _) V).trans (dm.oA (m':=i) (k:=8) ((J.az v).aK _) (λc K=>by rw[eV V];exact aj.new c V) (ad _) V)
 have r0:d a.size=8/\d v.size=8:=by rw[an];exact⟨by rw[eV V,fJ],fJ _ _ _⟩
 have I:Nx w u a i s d i none none none:=by
  refine⟨C2.mono λ_=>False.elim,J.az _,λ_ c=>?_,λc h1 h2=>?_,aL,aL,aL⟩
  .rw[an];unfold oA;split
   .decide
   .split
    .decide
    .have:=au c;omega
  .rcases aW c v.size with h|h
   .have:c=a.size:=V;subst this;exact r0.1
   .have:c=v.size:=V;subst this;exact r0.2
 clear_value i;clear an;have hN:=aj.cv.size;have a_:=ag.aS;have a9:=ag.heap;have a6:=ag.depth;have cC:∀{b:Nat->Nat}{M:E}{j:Option O}{l:Option Nat}{Z:Value->E->Prop},Nx w u a i s b M none j l->(∀A g F,Nx w u a i s F g (some A) j l->J M g->M.size<=g.size->Z (O.v A) g)->aN cq 66 [O.v aS] M Z:=λh hK=>
  (gU (hs.aS.ext (x2.trans h.ext)) V).mono λ_ g⟨A,p,z,y⟩=>by
   let⟨F,h'⟩:=h.c z y;rw[p];exact hK A g F h' y y.size
 have cH:∀{b:Nat->Nat}{M:E}{q:Option O}{l:Option Nat}{Z:Value->E->Prop},Nx w u a i s b M q none l->(∀A g F,Nx w u a i s F g q (some A) l->J M g->M.size<=g.size->Z (O.v A) g)->aN cq 67 [O.v hp] M Z:=λ{b M q l Z} h hK=>
  (IA (N:=w.size) h.eH.new (λc _=>h.Zo rfl c) (hs.ext (x2.trans h.ext)).heap (oh h.ext.size) ag.fl V).mono λ_ g⟨F,A,p,aP,ak,y⟩=>by
   rw[p];exact hK A g F (h.hO ak y (h.RU ak) (Or.inl rfl) (λp=>by cases p) (λe p=>Or.inl p) (λe p=>Or.inr (by simp at p;subst p;exact aP)) λe p=>Or.inl p) y y.size
 have kp:∀{M g:E},J M g->i.size<=M.size->∀L,af g a.size L=af M a.size L:=λy aA L=>aE (y.same _ V) L;refine⟨λz M=>z.2=0/\∃b q j fb,Ux w u a b M q j s/\i.size<=z.1/\i.size<=M.size/\b z.1=8/\b a.size=8/\b v.size=8/\cD M z.1 iz [.i s.cE,.i s.value,.i s.bu,.i s.dU,.s q,.s j,.s (.mk fb 0 0 0)],?_,?_⟩
 .have iH:∀{b:Nat->Nat}{M:E}{q j:O}{l fb:Nat},Nx w u a i s b M (some q) (some j) (some l)->(λ(z:Nat×Nat) M=>z.2=0/\∃b q j fb,Ux w u a b M q j s/\i.size<=z.1/\i.size<=M.size/\b z.1=8/\b a.size=8/\b v.size=8/\cD M z.1 iz [.i s.cE,.i s.value,.i s.bu,.i s.dU,.s q,.s j,.s (.mk fb 0 0 0)]) (l,0) (ah M l 0 [.i s.cE,.i s.value,.i s.bu,.i s.dU,.s q,.s j,.s (.mk fb 0 0 0)]):=λ{b M q j l fb} h=>by
   let⟨G,c,ar⟩:=h.ob l rfl;have ak:dm (λe=>e=8) b M b (ah M l 0 [.i s.cE,.i s.value,.i s.bu,.i s.dU,.s q,.s j,.s (.mk fb 0 0 0)]):=dm.ah h.eH.new c _ _;exact⟨rfl,b,q,j,fb,(⟨h.eH,h.aS q rfl,h.heap j rfl⟩:Ux w u a b M q j s).nV ak λe hk=>V,G,by rw[av];exact h.ext.size,c,h.box _ V V,h.box _ V V,cD.ah (m:=M) (o:=0) ar⟩
  have t:i.size<=i.size:=ad _;repeat' first
   |exact iH I
   |(refine cC I ?_;intro A g F I B C;have D:=t;have t:=bI t C)
   |(refine cH I ?_;intro A g F I B C;have D:=t;have t:=bI t C)
   |(intro C;have B:J _ C:=(J.az _).aK _;have H:Array.size C=_+1:=Array.size_push _;have D:=t;have t:=bI t B.size;first|(obtain⟨F,I⟩:=I.b (e:=C) rfl;clear_value C)|(have I:=I.a B;clear_value C))
   |(refine And.intro (kp B D _) ?_)
   |(refine And.intro (J.dq B λc K=>by simp at K;omega) ?_)
   |(refine⟨_,rfl,?_⟩)
   |(refine And.intro ?_ ?_)
 .rintro⟨l,oo⟩ m3 ⟨rfl,a4,q,j,fb,K3,aT,z3,r3,a1,a2,aF⟩;simp only[]at aT r3 aF;have aQ:∀{b:Nat->Nat}{M:E},WO u a b M->J a M:=λar=>(ar.none λc _=>au c).va;have a8:=hs.ao.len;simp -zeta only[bT];refine dT (n:=s.ao.length) V (λe M=>∃b fc,Ux w u a b M q j s/\nJ b M fc (s.ao.take e)/\i.size<=M.size/\b l=8/\b a.size=8/\b v.size=8/\cD M l iz [.i s.cE,.i s.value,.i s.bu,.i s.dU,.s q,.s j,.s fc])
   ⟨a4,_,K3,⟨[],⟨aL,aL,Or.inl rfl⟩,aL,aL,aL⟩,z3,r3,a1,a2,aF⟩ ?_
  rintro e D a5 μ hk ⟨W,fc,K9,F9,z9,r9,a3,aH,C⟩ aX
  have en:Int.toNat (e:Int)=e:=V;rw[en];have H:=aQ K9.eH;have ba:=C.lt;refine dit (λh1=>?_) λh1=>?_
  .have aR:e<s.ao.length:=V;let⟨ae,hf⟩:=dB aR;have a7:=ag.ao ae (aq hf);let⟨ra,oa,ha,ir,io,ih,g0,g1,g2,g3,g4,g5⟩:=hs.ao.aG hf;refine⟨V,V,_,H.af g0,_,H.af g1,_,H.af g2,ra,H.af g3,oa,H.af g4,ha,H.af g5,?_⟩;intro aw aa;have ai:J D aa:=((J.az D).aK _).ah (ad _) _ _;have bg:aa.size=D.size+1:=by simp[aa,aw,av]
   clear_value aa;have ay:dm (λ_=>False) W D (oA W D.size 8) aa:=dm.oA ai K9.eH.new (ad _) V 8;have t:∀{M g:E}{c:Nat},J M g->c<M.size->∀L,af g c L=af M c L:=λy aA L=>aE (y.same _ aA) L;have bl:∀{M:E},aa.size<=M.size->∀c∈[D.size,v.size,a.size],c<M.size:=λh c K=>by simp at K;omega
   refine⟨fc,(C.ext ai).cp 6,(gU (ir.ext (H.trans ai)) V).mono ?_⟩;rintro _ bb ⟨qr,rfl,aY,B⟩;obtain⟨be,ap,aJ,_⟩:=gY.DK aY B ay.new (10+3*e);have bj:=B.size;refine⟨B.dq (bl (ad _)),qr,rfl,t B V _,t B V _,t B V _,t B V _,t B V _,t B V _,(gU (io.ext (H.trans (ai.trans B))) V).mono ?_⟩;rintro _ bc ⟨qo,rfl,aZ,P⟩;obtain⟨bf,al,aK,_⟩:=gY.DK aZ P ap.new (11+3*e);have bk:=P.size;refine⟨P.dq (bl V),qo,rfl,t P V _,t P V _,t P V _,t P V _,t P V _,(gU (ih.ext (H.trans (ai.trans (B.trans P)))) V).mono ?_⟩;rintro _ S ⟨qh,rfl,a0,X⟩;obtain⟨U,ab,aM,_⟩:=gY.DK a0 X al.new (12+3*e);have bm:=X.size;refine⟨X.dq (bl V),qh,rfl,t X V _,t X V _,t X V _,t X V _,?_⟩;intro T;have aI:J S T:=(J.az S).aK _;have bh:T.size=S.size+1:=by simp[T]
   have aV:cD T S.size dP [.i ae.fG,.i ae.pc,.i ae.dst,.s qr,.s qo,.s qh]:=cD.push S _ _;clear_value T;have ac:dm (λ_=>False) U S U T:=dm.eG _ aI ab.new;have Y:dm (λ_=>False) W D U T:=(((ay.trans ap).trans al).trans ab).trans ac;have Q:U D.size=8/\U a.size=8/\U v.size=8/\U l=8:=⟨by rw[ab.gW _ V,al.gW _ V,ap.gW _ V];exact fJ _ _ _,by rw[Y.gW _ V];exact a3,by rw[Y.gW _ V];exact aH,by rw[Y.gW _ V];exact r9⟩;have tk:(s.ao.take e).length=e:=bF;refine⟨t aI V _,nJ.push (a:=ae) (F9.eH Y λ_ _=>id) ac.new (x:=.mk S.size 0 1 1) rfl aV.iD (by rw[tk];exact(((aJ.eH al id).eH ab id).eH ac id)) (by rw[tk];exact(aK.eH ab id).eH ac id) (by rw[tk];exact aM.eH ac id) V λR az ao aO G=>?_⟩;have bn:=G.size;have am:R D.size=8/\R a.size=8/\R v.size=8/\R l=8:=⟨by rw[G.gW _ V];exact Q.1,by rw[G.gW _ V];exact Q.2.1,by rw[G.gW _ V];exact Q.2.2.1,by rw[G.gW _ V];exact Q.2.2.2⟩;have aB:cD ao l iz [.i s.cE,.i s.value,.i s.bu,.i s.dU,.s q,.s j,.s fc]:=(C.ext Y.va).congr (G.eA _ V (by rw[Q.2.2.2];decide));refine⟨G.aae λc K=>by simp at K;rcases K with p|p|p<;>rw[p]<;>refine⟨V,?_⟩<;>simp[Q.1,Q.2.1,Q.2.2.1],aB.fL aL,?_⟩;intro aG;have ax:dm (λe=>e=8) R ao R aG:=dm.ah G.new (show(λe=>e=8) (R l)from am.2.2.2) _ _;have bi:aG.size=ao.size:=av _ _ _ _;refine⟨λc K=>bd _ _ _ _ (by simp at K;omega),aX V _ ⟨R,az,((K9.nV Y λ_=>False.elim).nV G λe hk=>V).nV ax λe hk=>V,?_,V,am.2.2.2,am.2.1,am.2.2.1,cD.ah (m:=ao) (o:=6) (r:=[.s az]) aB⟩⟩;rw[aU hf];exact aO.eH ax λe hk=>V
  .rw[bX V]at F9;refine⟨_,C.cp 0,_,C.cp 1,_,C.cp 2,_,C.cp 3,_,C.cp 4,_,C.cp 5,_,C.cp 6,?_⟩;intro aw;have B:dm (λe=>e=8) W D W aw:=dm.ah K9.eH.new (show(λe=>e=8) (W v.size)from aH) _ _;have t:=K9.nV B λe hk=>V;have G:=t.eH.none λc _=>au c;exact⟨W,q,j,fc,rfl,⟨aj.eH G,t.aS,t.heap,F9.eH B λe hk=>V⟩,G⟩
end
section
variable{n e:Nat}{m2 mx M a:E}
def vH:St:=⟨0,0,0,0,[],[],[]⟩
structure Zh where
 s:St
 ok:Bool
open Classical in
noncomputable def qu (b:cT) (s:St) (a:Int):Zh:=if cY b s/\0<=a/\a<=100000 then⟨aB b a.toNat s,true⟩else⟨vH,false⟩
def cY.iP{j:cT}{s:St}(h:cY j s)(b:Sm n s)(o:n<=900000000):zL s:=by
 refine⟨by have:=b.aS;omega,λc e=>(h.heap.cell c e).fl,oh b.heap,?_,λf g=>?_⟩
 .have:=h.depth;have:=h.bu;have:=h.dU;omega
 .have a:=h.ao f g;obtain⟨p,_,i,d,_⟩:=a.Jt h.fy;have k:=a.lr;have l:=a.lo;have m:=a.lh;rw[i]at k l m;have:=d.ak;omega
def yE.sm{s:St}(h:yE s)(a:s.heap.length<=n)(b:s.aS.length<=n):Sm n s:=⟨a,b,λg c w d=>((h.ao g c).1 w d).2⟩
section
variable{b:E}{c:Nat->Nat}{m:E}{aS f d:O}{s:St}
def pC.Ap(h:pC b c m aS f d s)(a:zL s):gC m aS f d s:=
 ⟨h.aS.nM (oh a.aS),h.heap.cells (oh a.heap),h.ao.Ap (oh a.depth) a.ao⟩
def pC.cQ(h:pC b c m aS f d s)(j:J m m2){a:Nat}{g:List Ce}(i:m.size<=a)(kb:cD m2 a e g):vf b (oA c a 1) m2 a e g aS f d s.aS s.heap s.ao:=by
 have C:dm (λ_=>False) c m (oA c a 1) m2:=dm.oA j h.bs.new i kb.lt 1;have B:=h.bs.eH C;exact⟨B.cv,B.jK,B.new,kb,fJ _ _ _,h.aS.eH C id,h.heap.eH C id id,h.ao.eH C λ_ _=>id⟩
def pC.nil{b m:E}(a:J b m):pC b (λ_=>0) m .nil .nil .nil vH:=
 ⟨⟨a,λ_ _=>rfl,λ_ _=>rfl⟩,⟨by simp[vH],aL,Or.inl rfl⟩,⟨[],⟨aL,aL,Or.inl rfl⟩,by simpa[vH]using gS.nil _ _,Xx.nil⟩,nJ.none⟩
def vf.Ap{h e:Nat}{a:List Ce}(L:vf b c m h e a aS f d s.aS s.heap s.ao)(g:zL s):gC m aS f d s:=
 pC.Ap (c:=c) ⟨⟨L.cv,L.jK,L.new⟩,L.aS,L.heap,L.ao⟩ g
end
def UL(m:E)(x:Zh)(v:Value)(c:E):Prop:=∃d aS b a,v=.tuple #[MD x.s aS b a,vb x.ok]/\pC m d c aS b a x.s
def iJ.up{a:Nat->Nat}{m d:E}{f k:Nat}{s:O}{l:List Ce}(h:iJ a m e f k s l)(j:k≠0)(g:∀b,b<mx.size->a b=0)(i:∀b,mx.size<=b->b<m.size->d[b]? =m[b]?):iJ a d e f k s l:=
 h.eA (λc=>i _ (Hx λn=>j (by rw[<-(h.D c).2];exact g _ n)) (h.D c).1) λ_=>rfl
def pC.Rf{m:E}{q:Nat->Nat}{aS p n:O}{s:St}(h:pC mx q M aS p n s)(y:m.size<=mx.size)(z:M.size<=a.size)(c:∀b,mx.size<=b->b<M.size->a[b]? =M[b]?)(w:J m a):pC m q a aS p n s:=by
 have d:=h.bs.jK;refine⟨⟨w,λb f=>d b V,λb f=>h.bs.new b V⟩,h.aS.up bn d c,?_,?_⟩
 .let⟨g,r,a2,a3⟩:=h.heap;refine⟨g,r.up bn d c,a2.mono λj x⟨i,u,k,l⟩=>⟨i,u,iT k λf=>c _ (l f).2.1 (iI k f),λf=>?_⟩,a3⟩;let⟨g1,g2,t,tail,v,o⟩:=l f;exact⟨g1,V,t,tail,v,o.congr (c _ g2 o.lt)⟩
 .let⟨g,f⟩:=h.ao;exact⟨g,f.qt.up bn d c,f.len,f.size,λr j i k l=>by
   let⟨u,t,o,e,b1,b2,b3⟩:=f.dz r j i k l;exact⟨u,t,o,e,b1.up V d c,b2.up V d c,b3.up V d c⟩⟩
def pC.box{m:E}{d:Nat->Nat}{aS b a:O}{s:St}(h:pC mx d M aS b a s)(c:J m mx){nb:Nat}(e:m.size<=nb)(g:nb<mx.size)(o:Nat)(l:List Ce):pC m d (ah M nb o l) aS b a s:=
 h.Rf c.size (uf (av _ _ _ _).symm) (λf i _=>bd _ _ _ _ V) ((c.trans h.bs.cv).ah e _ _)
def pC.ext{e:E}{f:Nat->Nat}{aS d c:O}{s:St}(h:pC e f M aS d c s)(b:J M a):pC e f a aS d c s:=h.Rf (ad _) b.size (λg _ i=>b.same g i) (h.bs.cv.trans b)
def Bs.yT(m:E):Bs m (λ_=>0) m:=⟨J.az _,λ_ _=>rfl,λ_ _=>rfl⟩
section
variable{m:E}{d p aS j i:O}{c:cT}{s:St}
def Hv{m:E}{nb:Nat}(c:J m m2)(a:J m2 M)(b:m.size<=nb){x:Zh}(d:x=⟨vH,false⟩)(l:List Ce):UL m x (.tuple #[.agg #[vi (0:Int),vi (0:Int),vi (0:Int),vi (0:Int),O.v O.nil,O.v O.nil,O.v O.nil],vb false]) (ah M nb 0 l):=by
 subst d;exact⟨_,.nil,.nil,.nil,rfl,pC.nil ((c.trans a).ah b _ _)⟩
variable(f:fg m d p c)(g:gC m aS j i s)(b:yE s)(h:s.aS.length<=10000000)
include f g b h
omit f g in
def TS:Sm 10000000 s:=b.sm b.lh h
omit f g in
def Qf(d:Int):zL (qu c s d).s:=by
 unfold qu;split
 .rename_i a;exact(tT _ a.1).iP (tU _ a.1 (b.sm b.lh h) V) V
 .exact⟨by simp[vH],by simp[vH],by simp[vH],by simp[vH],by simp[vH]⟩
def Iq(x:Int):aN cq 20 [.agg #[O.v d,O.v p],MD s aS j i,vi x] m (UL m (qu c s x)):=by
 apply CC;simp -zeta only[aD,aC];intro v m2 r;have s1:v.size=m.size+1:=by simp[v]
 have s2:m2.size=m.size+2:=by simp[m2,s1]
 have s3:r.size=m.size+3:=by simp[r,s2]
 have t:J m r:=(((J.az m).aK _).aK _).aK _;clear_value r;have o:∀e∈[m2.size,v.size,m.size],e<r.size:=bF;refine(Fj (f.ext t) (g.ext t) b).aH (J.az _) o λb4 m4 L P _=>⟨b4,rfl,λB=>Hv t P V (by unfold qu;rw[ae λa=>nb L B a.1]) _,λB=>?_⟩;have q:=yb L B;refine(aX _ _ _ _).aH P o λb5 m5 M ag k=>⟨b5,rfl,λC=>Hv t k V (by unfold qu;rw[ae λa=>nb M C a.2]) _,λC=>?_⟩;have hm:=yb M C;obtain⟨n,rfl⟩:∃n:Nat,x=n:=⟨x.toNat,V⟩;have hr:qu c s (n:Int)=⟨aB c n s,true⟩:=by unfold qu;rw[an ⟨q,hm⟩];simp
 rw[hr];have u:=t.trans k;have z5:=u.size;have ah:=k.size;have E:=TS b h;refine(pY (Bs.yT m5) (λ_=>dH _) (g.ext u) (q.iP E V)).mono ?_;rintro _ F ⟨ac,o6,K,I,rfl,W,R⟩;have y:=R.va;have z6:=y.size;refine⟨y.dq λe l=>k.lt (o e l),_,_,_,_,o6,K,I,rfl,aE (y.same _ V) 0,aE (y.same _ V) 1,?_⟩;intro w;have kb:cD w F.size bL (SB d p s o6 K I):=cD.push F _ _;have z:=W.cQ (m2:=w) (J.push F _) (ad _) kb;have Q:zE _ w [m2.size,v.size,m.size]:=λe l=>⟨z.cv.lt (k.lt (o e l)),z.jK e (k.lt (o e l))⟩;clear_value w;refine(JJ z (f.ext u) q E n V V).mono ?_;rintro _ m8 ⟨⟨nn,rfl⟩,af,o8,Z,Y,a,t8⟩;have aa:=tT n q;have N:=aa.iP (tU n q E V) V;generalize aB c n s=S at*;refine⟨t8.dJ Q,nn,rfl,_,a.box.cp 2,_,a.box.cp 3,_,a.box.cp 4,_,a.box.cp 5,o8,a.box.cp 6,Z,a.box.cp 7,Y,a.box.cp 8,(pY (Bs.yT m8) (λ_=>dH _) (a.Ap N) N).mono ?_⟩;rintro _ m9 ⟨ab,G,D,A,rfl,X,T⟩;have H:=a.cv;have z8:=H.size;refine⟨T.va.dq λe l=>H.lt (k.lt (o e l)),_,_,_,_,G,D,A,rfl,?_⟩;have U:=X.box (u.trans H) (nb:=m2.size) V V 0 [.i S.cE,.i S.value,.i S.bu,.i S.dU,.s G,.s D,.s A];exact⟨ab,G,D,A,rfl,U⟩
end
end
section
section
variable{m:E}{s t:O}
def Gj{x y:bN}{q r:O}(h:ap m q x.aF)(k:ap m r y.aF):dt cq 73 [.agg #[vi x.aQ,vi x.kj,O.v q],.agg #[vi y.aQ,vi y.kj,O.v r]] m (x=y):=by
 apply Aj;simp -zeta only[aD,aC];intro i d;let⟨a,g⟩:=dD (a:=i) (c:=d) rfl rfl;clear_value d;refine⟨λb=>⟨λc=>?_,λc=>bV (λh=>by simp[h]at c) a⟩,λb=>bV (λh=>by simp[h]at b) a⟩;refine(kQ (h.ext a) (k.ext a)).aH (J.az _) g λe l f j _=>⟨e,rfl,eU ?_ (a.trans j)⟩;rw[f];cases x;cases y;simp at b c;simp[b,c]
def Gk{l r:List bN}(f:cW m s l)(j:cW m t r):dt cq 37 [O.v s,O.v t] m (l=r):=by
 apply Ak;have y:=f.len;have D:=j.len;refine⟨λh=>bV (λe=>?_) (J.az _),λh=>?_⟩
 .subst e;simp at h;omega
 have C:l.length=r.length:=by simp at h;omega
 refine dT (n:=l.length) (y▸f.gV) (λk a=>J m a/\l.take k=r.take k) ⟨J.az _,aL⟩ ?_;rintro k E I μ B ⟨b,d⟩ A
 refine dit (λx=>?_) λx=>?_
 .let⟨K,g⟩:=cG l k;let⟨L,c⟩:=cG r k;let⟨G,a,w,g1,g2⟩:=(cW.ext b f).aG g;let⟨H,z,q,u,v⟩:=(cW.ext b j).aG c;refine⟨V,V,_,w,_,g1,_,g2,V,V,_,q,_,u,_,v,(Gj a z).mono ?_⟩;rintro _ F ⟨p,rfl,i,o⟩;refine⟨p,rfl,λa=>bV (λe=>nb i a ?_) (b.trans o),λa=>A V _ ⟨b.trans o,?_⟩⟩
  .subst e;rw[g]at c;simpa using c
  .rw[aU g,aU c,d,yb i a]
 .rw[bX V,bX V]at d;exact iR d b
def Em{x y:aY}{r s t u v w:O}(C:ap m r (x.ak))(D:ap m s (x.aR))(E:ap m t (x.ba))(F:ap m u (y.ak))(G:ap m v (y.aR))(H:ap m w (y.ba)):
 dt cq 17 [.agg #[vi x.fG,vi x.pc,vi x.dst,O.v r,O.v s,O.v t],.agg #[vi y.fG,vi y.pc,vi y.dst,O.v u,O.v v,O.v w]] m (x=y):=by
 apply yR
 simp -zeta only[aD,aC]
 intro I q
 let⟨a,i⟩:=dD (a:=I) (c:=q) rfl rfl
 clear_value q
 refine⟨λc=>⟨λd=>⟨λe=>?_,λe=>bV (λh=>by simp[h]at e) a⟩,λd=>bV (λh=>by simp[h]at d) a⟩,λc=>bV (λh=>by simp[h]at c) a⟩
 refine(kQ (C.ext a) (F.ext a)).aH (J.az _) i λz N o f L=>⟨z,rfl,λk=>?_,λk=>bV (λh=>fb o k (by rw[h])) (a.trans f)⟩
 have b:=a.trans f
 refine(kQ (D.ext b) (G.ext b)).aH f i λA P p j M=>⟨A,rfl,λl=>?_,λl=>bV (λh=>fb p l (by rw[h])) (b.trans j)⟩
 have g:=b.trans j
 refine(kQ (E.ext g) (H.ext g)).aH (f.trans j) i λB Q hd K _=>⟨B,rfl,eU ?_ (g.trans K)⟩
 rw[hd];have h:=o.1 k;have n:=p.1 l;cases x;cases y;simp at c d e h n;simp[c,d,e,h,n]
def Cy{l r:List aY}(f:jA m s l)(j:jA m t r):dt cq 38 [O.v s,O.v t] m (l=r):=by
 apply xl;have H:=f.len;have R:=j.len;refine⟨λh=>bV (λe=>?_) (J.az _),λh=>?_⟩
 .subst e;simp at h;omega
 have Q:l.length=r.length:=by simp at h;omega
 refine dT (n:=l.length) (H▸f.gV) (λk a=>J m a/\l.take k=r.take k) ⟨J.az _,aL⟩ ?_;rintro k S N μ P ⟨a,d⟩ M
 refine dit (λD=>?_) λD=>?_
 .let⟨aa,g⟩:=cG l k;let⟨ab,b⟩:=cG r k;let⟨U,W,X,E,F,G,z,g1,g2,A,B,C⟩:=(jA.ext a f).aG g;let⟨Y,Z,r5,I,K,L,q,u,v,w,x,y⟩:=(jA.ext a j).aG b;refine⟨V,V,_,z,_,g1,_,g2,_,A,_,B,_,C,V,V,_,q,_,u,_,v,_,w,_,x,_,y,(Em E F G I K L).mono ?_⟩;rintro _ T ⟨p,rfl,i,o⟩;refine⟨p,rfl,λc=>bV (λe=>nb i c ?_) (a.trans o),λc=>M V _ ⟨a.trans o,?_⟩⟩
  .subst e;rw[g]at b;simpa using b
  .rw[aU g,aU b,d,yb i c]
 .rw[bX V,bX V]at d;exact iR d a
def oN{x y:St}{A h s B u t:O}(k:gC m A h s x)(l:gC m B u t y):dt cq 15 [MD x A h s,MD y B u t] m (x=y):=by
 apply yS;simp -zeta only[aD,aC];intro F z;let⟨a,j⟩:=dD (a:=F) (c:=z) rfl rfl;clear_value z;refine⟨λc=>⟨λd=>⟨λe=>⟨λf=>?_,λf=>bV (λh=>by simp[h]at f) a⟩,λe=>bV (λh=>by simp[h]at e) a⟩,λd=>bV (λh=>by simp[h]at d) a⟩,λc=>bV (λh=>by simp[h]at c) a⟩;refine(kQ (k.aS.ext a) (l.aS.ext a)).aH (J.az _) j λC K v g H=>⟨C,rfl,λo=>?_,λo=>bV (λh=>fb v o (by rw[h])) (a.trans g)⟩;have b:=a.trans g;refine(Gk (cW.ext b k.heap) (cW.ext b l.heap)).aH g j λD L w n I=>⟨D,rfl,λp=>?_,λp=>bV (λh=>fb w p (by rw[h])) (b.trans n)⟩;have i:=b.trans n;refine(Cy (jA.ext i k.ao) (jA.ext i l.ao)).aH (g.trans n) j λE M hd G _=>⟨E,rfl,eU ?_ (i.trans G)⟩;rw[hd];have q:=v.1 o;have r:=w.1 p;cases x;cases y;simp at c d e f q r;simp[c,d,e,f,q,r]
end
end
end Go.Proofs.YtkoifinbblcbiaaGreat
