/- Part of a proof. -/
import Derived.Test.YtkoifinbblcbiaaGreatSB02
import Derived.Test.YtkoifinbblcbiaaGreatSB03
import Derived.Test.YtkoifinbblcbiaaGreatSB04
set_option linter.all false
set_option maxHeartbeats 8000000
set_option maxRecDepth 100000
namespace Go.Proofs.YtkoifinbblcbiaaGreat
open Go.Vc
section
variable{m:E}{s:O}{l:List Int}{h:List bN}{w:Int}{a:Nat}
def eO(c:ap m s l)(n:l.length<=1000000000):oJ 56 [O.v s] m l:=by
 apply tH;have b:=c.len;refine⟨λh=>?_,λh=>?_⟩
 .cases s with
  |nil=>simp at b;have:l=[]:=List.length_eq_zero_iff.1 b.symm;subst this;exact⟨.nil,rfl,ic.nil _ _ _ _,J.az _⟩
  |mk a o e d=>simp at h
  |zT a o d=>simp at h
 .intro d;have a:J m d:=(J.az m).aK _;have f:ic m d aA 1 (.mk m.size 0 0 0) []:=ic.new (J.az m) aA 1 [] 0 aL;refine ic.append (zs:=[.i 0]) (d:=l.map Ce.i) f a (by simp[b]) (c.ext a).Il bF λr o a e g i j k=>⟨r,rfl,by simpa using a,e⟩
def sC(g:ap m s l)(b:Int):aN cp 110 [O.v s,vi b] m λv i=>∃r:Int,v=vi r/\J m i/\((r= -1/\b∉l)\/(b∈l/\r=tv l b)):=by
 apply tJ;have j:=g.len;refine dW (n:=l.length) (j▸g.gY) (λk i=>J m i/\b∉l.take k) ⟨J.az _,aL⟩ ?_;rintro k u I μ t ⟨f,e⟩ p
 refine dit (λh=>?_) λh=>?_
 .let⟨x,d⟩:=cK l k;refine⟨V,V,x,by simpa using f.af (g.aE d),λc=>?_,λc=>p V _ ⟨f,?_⟩⟩
  .simp at c;subst c;refine⟨_,rfl,f,Or.inr ⟨aq d,?_⟩⟩;have:tv l b=k:=by
    unfold tv;rw[List.findIdx_eq (av d)];refine⟨by have:=(List.getElem?_eq_some_iff.1 d).2;simp[this],λo q=>?_⟩;simp;intro a;apply e;rw[<-a];exact List.mem_take_iff_getElem.2 ⟨o,V,rfl⟩
   rw[this]
  .rw[aU d];simp at c;intro a;rcases List.mem_append.1 a with a|a
   .exact e a
   .simp at a;exact c a
 .rw[bY V]at e;exact⟨_,rfl,f,Or.inl ⟨rfl,e⟩⟩
def mr(c:ap m s l)(n:Int):dw cp 169 [O.v s,vi n] m (n∈l):=by
 apply rI;refine(sC c n).mono ?_;rintro _ f ⟨r,rfl,d,h⟩;refine⟨_,rfl,eV ?_ d⟩;simp only[oH,ar];rcases h with⟨rfl,h⟩|⟨b,e⟩
 .exact⟨λa=>V,λa=>absurd a h⟩
 .exact⟨λ_=>b,λ_=>V⟩
def Cy{t:O}{r:List Int}(d:ap m s l)(i:ap m t r):dw cp 172 [O.v s,O.v t] m (l=r):=by
 apply tI;have j:=d.len;have q:=i.len;refine⟨λh=>bW (λe=>by subst e;simp at h;omega) (J.az _),λh=>?_⟩;simp at h;refine dW (n:=l.length) (j▸d.gY) (λk a=>J m a/\l.take k=r.take k) ⟨J.az _,aL⟩ ?_;rintro k u I μ p ⟨b,g⟩ o
 refine⟨λh=>?_,λh=>iV (by simp at h;rwa[bY V,bY V]at g) b⟩;simp only[ar]at h;let⟨x,f⟩:=cK l k;let⟨y,c⟩:=cK r k;refine⟨V,V,x,by simpa using b.af (d.aE f),V,V,y,by simpa using b.af (i.aE c),λa=>bW (λe=>?_) b,λa=>o V _ ⟨b,?_⟩⟩
 .subst e;rw[f]at c;simp at c;simp at a;exact a c
 .rw[aU f,aU c,g];simp at a;rw[a]
def iB{a:O}(i:cR m a h)(u:w<=9223372036854775807):
 aN cp 153 [O.v a,vi w] m λv p=>∃(j:Int)(e:Bool),v=.tuple #[vi j,vb e]/\(e=true<->fW h w)/\(e=true->j=ix w)/\J m p:=by
 apply Ge
 have k:=i.len
 have t:=i.gY
 refine⟨λc=>?_,λc=>?_⟩
 .simp at c
  have l:cT (w -1000)=w -1000:=aP V V
  have o:(ix w:Int)=w -1000:=by unfold ix;omega
  rw[l]
  refine⟨λg=>?_,λg=>?_⟩
  .simp at g
   let⟨f,b⟩:=cK h ((w -1000).toNat)
   obtain⟨r,s,n,_⟩:=i.aE b
   refine⟨V,V,f.aQ,n,_,_,rfl,?_,λ_=>o.symm,J.az _⟩
   simp only[kQ,ar]
   refine⟨λa=>⟨c,f,b,a⟩,λ⟨_,q,d,a⟩=>?_⟩
   unfold ix at d
   rw[b]at d;simp at d;subst d;exact a
  .simp at g
   refine⟨_,_,rfl,⟨sx,λ⟨_,f,b,_⟩=>?_⟩,sx,J.az _⟩
   have:=av b
   omega
 .simp at c
  exact⟨_,_,rfl,⟨sx,λk=>oh k.1⟩,sx,J.az _⟩
def Lh{b:O}(f:af m a 8=some (O.v b))(g:cR m b h)(i:w<=9223372036854775807):dw cp 97 [vp a 0,vi w] m (fW h w):=by
 apply uh (a,0);refine⟨b,f,(iB g i).mono ?_⟩;rintro _ k ⟨c,d,rfl,e,_,j⟩;exact⟨c,d,rfl,eV e j⟩
def Ei(e:ap m s l)(q:l.length<=100000000):oJ 173 [O.v s] m (ln l):=by
 apply yK;have p:=e.len;refine eB (n:=l.length) V (λk s a=>J m a/\ic m a aA 1 s ((ln (l.take k)).map Ce.i)) ⟨J.az _,by simpa[ln]using ic.nil m m aA 1⟩ ?_;rintro k s r I μ o ⟨b,a⟩ f
 refine dit (λh=>?_) λh=>?_
 .let⟨x,c⟩:=cK l k;refine⟨V,V,x,by simpa using b.af (e.aE c),λd=>?_,λg=>?_⟩
  .intro t;refine nZ a b (by have:=od (l.take k);simp at this;omega) λv u i j=>f V _ _ ⟨j,?_⟩
   rw[aU c,pp];have:ln [x]=[x]:=by simp at d;simp[ln,d]
   rw[this];exact i
  .refine f V _ _ ⟨b,?_⟩
   rw[aU c,pp];have:ln [x]=[]:=by simp at g;simp[ln];omega
   rw[this,eg];exact a
 .rw[bY V]at a;exact⟨s,rfl,a,b⟩
def yf(g:ap m s l):dw cp 99 [O.v s] m (Sr l):=by
 apply Ec;refine(jd g 170 #[] #[] bh (λx=>x≠0) (λx _ i d=>?_)).then λb j f d=>⟨b,rfl,eV ?_ d⟩
 .simp only[eG,eg];apply zZ;exact eV aL (J.az _)
 .have e:(!b)=true<->¬(b=true):=aL;rw[e,f];unfold Sr;constructor
  .intro h n c;exact dS λa=>h ⟨n,c,a⟩
  .rintro h ⟨n,c,a⟩;exact a (h n c)
def vU{am U:O}{b:cU}(ac:fC m am U b)(g1:af m a 1=some (O.v U)){x:Instr}(hc:zB b x){o j:O}(z:ap m o x.args)(aQ:x.args.length<=1000000)(an:(x.op=16\/x.op=17)->1<=x.args.length):
 aN cp 95 [vp a 0,xv x o j] m λaE T=>∃s l,aE=.tuple #[O.v s,O.v l]/\ap T s (bR b x)/\ap T l (if x.op=9\/x.op=24 then fI b x 0 x.args else[])/\J m T/\(s=.nil\/s.D=o.D\/m.size<=s.D)/\(l=.nil\/m.size<=l.D):=by
 apply sM (a,0)
 simp -zeta only[aC,aB]
 intro c
 have v:J m c:=(J.az m).aK _
 have Q:∀p∈[m.size],p<c.size:=by simp[c]
 have s1:c.size=m.size+1:=by simp[c]
 have ab:=z.len
 have aI:=z.cap
 have N:ap c .nil []:=⟨rfl,aL,aL,aL⟩
 clear_value c
 refine⟨λe=>?_,λq=>⟨λe=>?_,λt=>⟨λe=>?_,λr=>?_⟩⟩⟩
 .simp only[bT,aG]at e
  refine⟨o,.nil,rfl,?_,by rw[ae V];exact N,v,Or.inr (Or.inl rfl),Or.inl rfl⟩
  unfold bR;rw[ao V];exact z.ext v
 .simp only[bT,aG]at e
  simp only[bt,aj]at q
  refine⟨V,V,V,_,.nil,rfl,?_,by rw[ae V];exact N,v,Or.inr (Or.inl ?_),Or.inl rfl⟩
  .unfold bR;rw[ae V,ao e]
   exact eU.TE (z.ext v) (an e)
  .cases o with
   |nil=>simp at ab;omega
   |zT p d f=>simp at ab;omega
   |mk p d l f=>rfl
 .simp only[bT,aG]at e
  simp only[bt,aj]at q t
  let⟨h0,aR,K⟩:=hc e
  have aP:=ac.cE.len
  have aO:=av K
  have aD:∃(w:O->O->Int->E->Prop)(μ0:O->O->Int->E->Nat),w O.nil O.nil (0:Int) c/\(∀(ak:O)(cW:O)(i:Int)(d:E),w ak cW i d->∃k:Nat,i=k/\k<=x.args.length/\J c d/\ic c d aA 1 ak ((jA b x k).map Ce.i)/\ic c d aA 1 cW ((fI b x 0 (x.args.take k)).map Ce.i)/\(ak≠.nil->cW≠.nil->ak.D≠cW.D))/\
   (∀(ak cW:O)(k:Nat)(d:E),k<=x.args.length->J c d->ic c d aA 1 ak ((jA b x k).map Ce.i)->ic c d aA 1 cW ((fI b x 0 (x.args.take k)).map Ce.i)->(ak≠.nil->cW≠.nil->ak.D≠cW.D)->w ak cW k d)/\(∀o p i m,μ0 o p i m=((x.args.length:Int) -i).toNat):=
   ⟨λak cW i d=>∃k:Nat,i=k/\k<=x.args.length/\J c d/\ic c d aA 1 ak ((jA b x k).map Ce.i)/\ic c d aA 1 cW ((fI b x 0 (x.args.take k)).map Ce.i)/\(ak≠.nil->cW≠.nil->ak.D≠cW.D),λ_ _ i _=>((x.args.length:Int) -i).toNat,
    ⟨0,rfl,dP _,J.az _,by simpa[jA,iN]using ic.nil c c aA 1,by simpa[fI]using ic.nil c c aA 1,λh=>absurd rfl h⟩,λ_ _ _ _ h=>h,λak cW k d f g u y A=>⟨k,rfl,f,g,u,y,A⟩,λ_ _ _ _=>rfl⟩
  let⟨w,μ0,aq,ay,ag,hμ⟩:=aD
  refine⟨w,μ0,aq,?_⟩
  intro ak cW i d hI
  obtain⟨k,rfl,hk,aa,o1,o2,I⟩:=ay ak cW i d hI
  have L:=v.trans aa
  refine dit (λh=>?_) λh=>?_
  .let⟨y,R⟩:=cK x.args k
   obtain⟨a',l',c',aH,aw,aJ,k0,k1,_⟩:=(ac.ext L).cE.aE K
   have ai:(x.args.take k).length=k:=bF
   have al:jA b x (k+1)=jA b x k++iN b x k [y]:=by
    unfold jA;rw[aU R,vC,ai,bV]
   have ah:fI b x 0 (x.args.take (k+1))=fI b x 0 (x.args.take k)++fI b x k [y]:=by
    rw[aU R,qY,ai,bV]
   have aK:(jA b x k).length<=k:=bI (tX _ _ _ _) bF
   have aM:(fI b x 0 (x.args.take k)).length<=k:=by
    have:∀(l:List Int)(j:Nat),(fI b x j l).length<=l.length:=by
     intro l;induction l with
     |nil=>intro j;exact ad _
     |cons aF l S=>intro j;have:=S (j+1);simp only[fI];split<;>simp<;>omega
    have:=this (x.args.take k) 0;omega
   have Z:cT ((k:Int)+1)=((k+1:Nat):Int):=kN (n:=x.args.length) V V
   refine⟨V,V,y,by simpa using L.af (z.aE R),U,L.af g1,h0,V,l',k1,(mr aw _).aI aa Q λp M hb u F=>⟨p,rfl,λau=>?_,λar=>?_⟩⟩
   .have A:=(Ll K k).2 (hb.1 au)
    intro g
    have s4:g.size=M.size+1:=by simp[g]
    have P:=o1.ext u
    have ax:cW.len=(fI b x 0 (x.args.take k)).length:=by have:=o2.len;simp at this;omega
    refine ic.append (zs:=[.i 0]) (d:=[.i y]) ((o2.ext u).ext (J.push _ _)) (F.aK _) rfl (cJ.push M _ _).iJ bF λs m5 W D q3 q4 X Y=>⟨J.tG (F.aK _) D Q,?_⟩
    rw[Z]
    have az:=u.size
    refine⟨ag _ _ _ _ V D ?_ ?_ ?_,by rw[hμ,hμ];omega⟩
    .rw[al]
     have:iN b x k [y]=[]:=by simp only[iN];rw[ao A]
     rw[this,eg]
     rcases P.lt with e|e
     .subst e;exact⟨P.len,Or.inl rfl⟩
     .refine P.congr ?_
      rw[X _ (show _<g.size by omega) (λC=>?_),mX,ae V]
      by_cases B:ak=.nil
      .subst B
       rcases o2.D with r|r
       .exact absurd r C
       .simp;omega
      .exact I B C
    .rw[ah]
     have:fI b x k [y]=[y]:=by simp only[fI];rw[ao A]
     rw[this];simpa using W
    .intro G H
     rcases Y with⟨_,e⟩|⟨q,t,_⟩|e
     .exact absurd e H
     .rw[t];exact I G q
     .rw[e]
      rcases P.lt with f|f
      .exact absurd f G
      .show ak.D≠g.size;omega
   .have A:¬nK b x k=true:=λhh=>fb hb ar ((Ll K k).1 hh)
    intro g
    have s4:g.size=M.size+1:=by simp[g]
    have P:=o2.ext u
    have ax:ak.len=(jA b x k).length:=by have:=o1.len;simp at this;omega
    refine ic.append (zs:=[.i 0]) (d:=[.i y]) ((o1.ext u).ext (J.push _ _)) (F.aK _) rfl (cJ.push M _ _).iJ bF λs m5 W D q3 q4 X Y=>⟨J.tG (F.aK _) D Q,?_⟩
    rw[Z]
    have az:=u.size
    refine⟨ag _ _ _ _ V D ?_ ?_ ?_,by rw[hμ,hμ];omega⟩
    .rw[al]
     have:iN b x k [y]=[y]:=by simp only[iN];rw[ae A]
     rw[this];simpa using W
    .rw[ah]
     have:fI b x k [y]=[]:=by simp only[fI];rw[ae A]
     rw[this,eg]
     rcases P.lt with e|e
     .subst e;exact⟨P.len,Or.inl rfl⟩
     .refine P.congr ?_
      rw[X _ (show _<g.size by omega) (λC=>?_),mX,ae V]
      by_cases B:cW=.nil
      .subst B
       rcases o1.D with r|r
       .exact absurd r C
       .simp;omega
      .exactλe5=>I C B e5.symm
    .intro G H
     rcases Y with⟨_,e⟩|⟨q,t,_⟩|e
     .exact absurd e G
     .rw[t];exact I q H
     .rw[e]
      rcases P.lt with f|f
      .exact absurd f H
      .show g.size≠cW.D;omega
  .have g:x.args.take k=x.args:=bY V
   rw[g]at o2
   unfold jA at o1
   rw[g]at o1
   have A:=tX b x x.args 0
   have u:∀(l:List Int)(j:Nat),(fI b x j l).length<=l.length:=by
    intro l;induction l with
    |nil=>intro j;exact ad _
    |cons aF l S=>intro j;have:=S (j+1);simp only[fI];split<;>simp<;>omega
   have y:=u x.args 0
   refine⟨ak,cW,rfl,?_,?_,L,?_,?_⟩
   .unfold bR;rw[ae V,ae V,ao e];exact ap.gB o1 V
   .rw[ao e];exact ap.gB o2 V
   .rcases o1.D with f|f
    .exact Or.inl f
    .exact Or.inr (Or.inr V)
   .rcases o2.D with f|f
    .exact Or.inl f
    .exact Or.inr V
 .simp only[bt,aj]at q t r
  refine⟨.nil,.nil,rfl,?_,by rw[ae V];exact N,v,Or.inl rfl,Or.inl rfl⟩
  unfold bR;rw[ae V,ae V,ae V];exact N
end
section
variable{b:E}{i e:Nat}{d p g k h a j:O}{c:cU}{s:St}{f:aX}{x:Instr}
def Ia:∀(l:List (Int×Int))(k v j:Int),vn (JQ l k v) j=if j=k then v else vn l j
 |[],k,v,j=>by simp[JQ,vn]
 |(a,c)::g,k,v,j=>by
  simp only[JQ];split
  .rename_i h;subst h;simp only[vn];split<;>simp_all
  .rename_i h;simp only[vn];split
   .rename_i b;subst b;rw[ae (λe=>h e.symm)]
   .exact Ia g k v j
def PX(l:List Int)(k:Nat)(a:Nat):eD (l.take k) a<=eD l a:=by
 have:eD l a=eD (l.take k) a+eD (l.drop k) a:=by rw[<-mj,dp]
 have:=iL (l.drop k) a;omega
def vZ{m:O}{h:List bN}(Y:af b i 8=some (O.v m))(L:cR b m h){t:Nat->Int}(H:fO h t){c:bN}(W:c∈h){f:O}(X:ap b f c.aF)(aD:h.length<=2000000000):
 dw cp 171 [vp i 0,.agg #[vi c.aQ,vi c.kD,O.v f]] b (c.aQ=1\/lD h c.aF):=by
 apply sP (i,0)
 unfold nU
 simp -zeta only[aC,aB]
 intro e
 have z:J b e:=(J.az b).aK _
 have s1:e.size=b.size+1:=by simp[e]
 have Z:∀g∈[b.size],g<e.size:=by simp[s1]
 have az:=(H.cell c W).fl
 have aA:=X.len
 have aE:=L.len
 clear_value e
 refine⟨λu=>iV (Or.inl (by simpa using u)) z,λu=>?_⟩
 simp only[aj]at u
 intro B
 have ah:J e B:=(J.az e).aK _
 have ar:DE B e.size []:=⟨#[],0,by simp[B],rfl⟩
 clear_value B
 refine dW (n:=c.aF.length) V (λk d=>J e d/\∃l,DE d e.size l/\(∀a:Nat,vn l a=eD (c.aF.take k) a)/\∀w∈c.aF.take k,1000<=w->(aM h w).aQ+eD (c.aF.take k) (ix w)<=999999) ⟨ah,[],ar,λa=>by simp[vn,eD],aL⟩ ?_
 rintro k m3 ay μ hk ⟨D,l,ab,N,x⟩ ag
 have A:=z.trans D
 refine dit (λh2=>?_) λh2=>?_
 .let⟨w,o⟩:=cK c.aF k
  have ac:1000<=w->fW h w:=λm=>H.field W (aq o) m
  have ax:w<=9223372036854775807:=by
   rcases dT (1000<=w)with q|q
   .have:=av (bS (ac q)).1;unfold ix at this;omega
   .omega
  refine⟨V,V,w,by simpa using A.af (X.aE o),m,A.af Y,(iB (cR.ext A L) ax).aI D Z ?_⟩
  rintro _ m4 ⟨a,g,rfl,v,ai,F⟩
  have p:=D.trans F
  have aN:=z.trans p
  have an:e.size<m3.size:=by obtain⟨T,S,G,_⟩:=ab;exact(Array.getElem?_eq_some_iff.1 G).1
  have P:DE m4 e.size l:=by obtain⟨T,S,G,r⟩:=ab;exact⟨T,S,by rw[F.same _ an];exact G,r⟩
  have j:∀a:Nat,eD (c.aF.take (k+1)) a=eD (c.aF.take k) a+(if w=1000+(a:Int)then 1 else 0):=λa=>by
   rw[aU o,mj];simp[eD]
  refine⟨F,a,g,rfl,λU=>?_,λak=>?_⟩
  .have M:=v.1 U
   have I:=ai U
   subst I
   have ad:=iu M.1
   have aJ:=iL (c.aF.take k) (ix w)
   have aI:=kK (c.aF.take k) (ix w)
   have aF:(c.aF.take k).length<=3:=bF
   have e1:cT (vn l (ix w)+1)=eD (c.aF.take (k+1)) (ix w):=by
    rw[N,j,ao ad.symm];exact aP V V
   refine⟨l,P,l,P,?_⟩
   rw[e1]
   intro m5 aa aw am
   have E:J e m5:=⟨by rw[aw];exact p.size,λg v=>by rw[am g V,p.same g v]⟩
   have R:=z.trans E
   let⟨K,aK⟩:=bS M
   obtain⟨f5,_,k0,_⟩:=(cR.ext R L).aE K
   have aG:=av K
   have aH:=(H.cell _ (aq K)).hi
   have al:vn (JQ l (ix w) (eD (c.aF.take (k+1)) (ix w))) (ix w)=eD (c.aF.take (k+1)) (ix w):=by rw[Ia,ao rfl]
   have au:=j (ix w)
   rw[ao ad.symm]at au
   have e2:cT ((aM h w).aQ+eD (c.aF.take (k+1)) (ix w))=(aM h w).aQ+eD (c.aF.take (k+1)) (ix w):=aP V V
   refine⟨J.tG p E Z,m,R.af Y,V,V,_,by simpa using k0,_,aa,trivial,trivial,?_⟩
   rw[al,e2]
   refine⟨λr=>bW (λs=>?_) R,λr=>ag V _ ⟨E,_,aa,λa=>?_,λC d y=>?_⟩⟩
   .rcases s with s|s
    .exact u s
    .have:=s w (aq o) M.1
     have:=PX c.aF (k+1) (ix w)
     simp at r;omega
   .rw[Ia]
    by_cases I:(a:Int)=ix w
    .have:a=ix w:=V
     subst this;rw[ao rfl]
    .rw[ae I,N,j,ae V];omega
   .by_cases Q:C=w
    .subst Q;simp at r;omega
    .rw[j,ae (λt=>Q (by rw[iu y]at t;exact t.symm))]
     rw[aU o]at d
     rcases List.mem_append.1 d with d|d
     .have:=x C d y;omega
     .simp at d;exact absurd d Q
  .have s:¬fW h w:=fb v ak
   have E:w<1000:=by
    rcases dT (1000<=w)with q|q
    .exact absurd (ac q) s
    .omega
   refine ag V _ ⟨p,l,P,λa=>by rw[N,j,ae V];omega,λC d y=>?_⟩
   rw[j,ae V]
   rw[aU o]at d
   rcases List.mem_append.1 d with d|d
   .have:=x C d y;omega
   .simp at d;omega
 .rw[bY V]at x
  exact iV (Or.inr x) A
structure FP(b:E)(fb e:Nat)(f:aX)(g k h:O):Prop where
 g3:af b fb (e+3)=some (O.v g)
 g4:af b fb (e+4)=some (O.v k)
 g5:af b fb (e+5)=some (O.v h)
 ak:ap b g f.ak
 aR:ap b k f.aR
 aZ:ap b h f.aZ
def FP.ext{b c:E}{fb e:Nat}{f:aX}{g k h:O}(F:FP b fb e f g k h)(a:J b c):FP c fb e f g k h:=⟨a.af F.g3,a.af F.g4,a.af F.g5,F.ak.ext a,F.aR.ext a,F.aZ.ext a⟩
def HV{fb:Nat}{aT K fr:O}(l:RV b i 3 d p aT K fr c s)(ai:af b i 2=some (vi (cr c))){fs:List aX}(C:zy c s fs f x)(M:FP b fb e f g k h)(v:ap b a x.args)(aI:x.op=11)(aj:s.heap.length<=2000000000):
 dw cp 100 [vp i 0,vp fb e,xv x a j] b (vK c s.heap (aE f.ak (aE x.args 0))):=by
 apply sO (i,0) (fb,e)
 simp -zeta only[aC,aB]
 intro u
 have r:J b u:=(J.az b).aK _
 have s1:u.size=b.size+1:=by simp[u]
 clear_value u
 have hl:∀B∈[b.size],B<u.size:=by simp[s1]
 have au:=v.len
 have aL:=M.ak.len
 have h2:=C.lH.2.2.1 V
 have q:0<=aE x.args 0/\aE x.args 0<f.ak.length:=C.arg _ (fm V V)
 have an:=C.F.pT q.1 q.2 C.MI
 have N:=M.ext r
 have S:=C.ok.heap
 have X:=C.ok.fe
 refine⟨K,r.af l.ru,g,N.g3,V,V,_,(v.ext r).pJ V V,q.1,V,_,N.ak.pJ q.1 q.2,?_⟩
 generalize aE f.ak (aE x.args 0)=w at*
 refine(iB (cR.ext r l.heap) an.2).aI (J.az _) hl ?_
 rintro _ L ⟨aa,B,rfl,T,ag,E⟩
 have z:=r.trans E
 refine⟨E,aa,B,rfl,λah=>bW (λm=>nb T ah m.1) z,λU=>?_⟩
 have Y:=yb T U
 have v:=ag (by simpa using U)
 subst v
 let⟨y,al⟩:=bS Y
 have R:=S.cell _ (aq y)
 have aO:=(R.oZ al).2
 have aH:=av y
 have aF:=l.heap.len
 let⟨D,W,k0,k1,k2⟩:=(cR.ext z l.heap).aE y
 refine⟨K,z.af l.ru,V,V,_,by simpa using k0,_,by simpa using k1,D,by simpa using k2,?_⟩
 intro m3 o
 have P:J L o:=((J.az L).aK _).ah (ad _) _ _
 have s4:o.size=L.size+1:=by simp[o,m3,aw]
 clear_value o
 have n:=z.trans P
 have ar:(eT c.bq).length<=12:=by
  have:=rq X.om.types c.bq.length;rw[nh _ _ (ad _)]at this;exact this
 have az:(cr c)=((eT c.bq).length:Int):=rfl
 have aK:=l.fe.cE.len
 have aJ:=X.om.len
 have e1:cT ((aM s.heap w).kD -cr c)=(aM s.heap w).kD -cr c:=aP V V
 refine⟨cr c,n.af ai,?_⟩
 rw[e1]
 refine⟨λF=>bW (λm=>by have:=m.2.1;simp at F;omega) n,λF=>⟨p,n.af l.cE,λG=>bW (λm=>by have:=m.2.2.1;simp at G;omega) n,λG=>?_⟩⟩
 simp at F G
 let⟨ao,Z⟩:=cK c.cE (((aM s.heap w).kD -cr c).toNat)
 have am:dQ c ((aM s.heap w).kD -cr c)=ao:=by simp[dQ,Z]
 let⟨a',l',c',ac,ak,ay,j0,j1,j2,j3,j4⟩:=(l.fe.ext n).cE.aE Z
 have ax:=ac.len
 have aG:=ak.len
 have aD:=W.len
 have aA:=R.fl
 refine⟨p,n.af l.cE,V,V,a',j0,l',j1,_,j2,_,j3,c',j4,?_⟩
 intro m5 A
 have Q:J o A:=((J.az o).aK _).ah (ad _) _ _
 have s6:A.size=o.size+1:=by simp[A,m5,aw]
 clear_value A
 have t:=n.trans Q
 have e3:cT ((D.len:Int)+1)=(D.len:Int)+1:=aP V V
 rw[e3]
 unfold vK
 rw[am]
 have aN:=E.size
 refine⟨λH=>⟨λI=>?_,λI=>bW (λm=>by have:=m.2.2.2.1;simp at I;omega) t⟩,λH=>bW (λm=>by have:=m.2.2.2.2.1;simp at H;omega) t⟩
 simp at H I
 refine(vZ (t.af l.ru) (cR.ext t l.heap) S (aq y) (W.ext (P.trans Q)) aj).aI (J.az _) bF λb2 m7 ae ab _=>⟨b2,rfl,eV (ae.trans ?_) (t.trans ab)⟩
 exact⟨λhs=>⟨Y,V,V,V,V,hs⟩,λm=>m.2.2.2.2.2⟩
def Eh{fb:Nat}{aT hp fr:O}(A:RV b i 3 d p aT hp fr c s){fs:List aX}(C:zy c s fs f x)(H:FP b fb e f g k h)(L:ap b a x.args)(aL:x.op=14\/x.op=19\/x.op=21\/x.op=16\/x.op=17)(aJ:s.heap.length<=2000000000):
 dw cp 101 [vp i 0,vp fb e,xv x a j] b ((x.op=14->fW s.heap (aE f.ak (aE x.args 0))/\(aM s.heap (aE f.ak (aE x.args 0))).aQ<999999)/\(x.op=19->fW s.heap (aE f.ak (aE x.args 0))/\x.bQ<(aM s.heap (aE f.ak (aE x.args 0))).aF.length)/\
  (x.op=21->fW s.heap (aE f.ak (aE x.args 0))/\(aM s.heap (aE f.ak (aE x.args 0))).kD∈cA c.bq x.bQ)/\((x.op=16\/x.op=17)->Fy s.heap f x)):=by
 apply ry (i,0) (fb,e)
 simp -zeta only[aC,aB]
 intro Q
 have N:J b Q:=(J.az b).aK _
 have s1:Q.size=b.size+1:=by simp[Q]
 clear_value Q
 have hl:∀B∈[b.size],B<Q.size:=by simp[s1]
 have a0:=L.len
 have aZ:=L.cap
 have a9:=H.ak.len
 have a3:=H.aZ.len
 have h4:=C.lH
 have a6:=C.Gk
 have aK:1<=x.args.length:=V
 have aV:=h4.1
 clear h4
 have D:0<=aE x.args 0/\aE x.args 0<f.ak.length:=C.arg _ (fm V V)
 have aO:=C.F.pT D.1 D.2 C.MI
 have F1:=H.ext N
 have hI:=C.ok.heap
 have aF:Fy s.heap f x<->(fW s.heap (aE f.ak (aE x.args 0))/\ln (aM s.heap (aE f.ak (aE x.args 0))).aF=cO f (x.args.drop 1)/\((aM s.heap (aE f.ak (aE x.args 0))).aQ=1\/lD s.heap (aM s.heap (aE f.ak (aE x.args 0))).aF)/\(x.op=17->aE f.aZ (aE x.args 0)=0)):=Tb
 rw[aF]
 refine⟨hp,N.af A.ru,g,F1.g3,V,V,_,(L.ext N).pJ V V,D.1,V,_,F1.ak.pJ D.1 D.2,?_⟩
 generalize aE f.ak (aE x.args 0)=w at*
 refine(iB (cR.ext N A.heap) aO.2).aI (J.az _) hl ?_
 rintro _ E ⟨ar,B,rfl,T,aH,Z⟩
 have X:=N.trans Z
 refine⟨Z,ar,B,rfl,λaI=>bW (λu=>?_) X,λaj=>?_⟩
 .have q:=nb T aI
  rcases aL with l|l|l|l
  .exact q (u.1 l).1
  .exact q (u.2.1 l).1
  .exact q (u.2.2.1 l).1
  .exact q (u.2.2.2 l).1
 have G:=yb T aj
 have aG:=aH (by simpa using aj)
 subst aG
 let⟨W,a8⟩:=bS G
 have ai:=hI.cell _ (aq W)
 have a7:=av W
 have a4:=A.heap.len
 let⟨Y,ae,k0,k1,k2⟩:=(cR.ext X A.heap).aE W
 refine⟨hp,X.af A.ru,V,V,_,by simpa using k0,_,by simpa using k1,Y,by simpa using k2,?_⟩
 intro m3 z
 have aa:J E z:=((J.az E).aK _).ah (ad _) _ _
 have s4:z.size=E.size+1:=by simp[z,m3,aw]
 have kB:af z E.size 1=some (vi (aM s.heap w).kD):=(cJ.ah (m:=m3) (o:=0) (r:=[.i (aM s.heap w).aQ,.i (aM s.heap w).kD,.s Y]) (cJ.push E _ _)).cg 1
 clear_value z
 have y:=X.trans aa
 have a_:=Z.size
 have F:∀B∈[E.size,b.size],B<z.size:=bF
 have a2:=ae.len
 refine⟨λl=>?_,λau=>⟨λl=>?_,λax=>⟨λl=>?_,λay=>?_⟩⟩⟩
 .simp at l
  refine eV ?_ y
  simp
  exact⟨λt=>⟨λ_=>⟨G,t⟩,λq=>V,λq=>V,λq=>V⟩,λt=>(t.1 l).2⟩
 .simp at l
  refine eV ?_ y
  simp
  exact⟨λt=>⟨λq=>V,λ_=>⟨G,V⟩,λq=>V,λq=>V⟩,λt=>oh ((t.2.1 l).2)⟩
 .simp at l
  refine⟨d,y.af A.bq,(tw (A.fe.ext y).bq C.ok.fe.om.types _).aI (J.az _) F ?_⟩
  rintro _ m5 ⟨I,rfl,K,v⟩
  refine⟨v,I,rfl,v.de kB,(mr K _).aI v F λb2 m6 U ac ab=>⟨b2,rfl,eV (U.trans ?_) (y.trans ab)⟩⟩
  exact⟨λt=>⟨λq=>V,λq=>V,λ_=>⟨G,t⟩,λq=>V⟩,λt=>(t.2.2.1 l).2⟩
 .simp at au ax ay
  have R:x.op=16\/x.op=17:=V
  have e1:(Int.toNat (1:Int))=1:=rfl
  have e2:(Int.toNat (a.len:Int))=a.len:=V
  rw[e1,e2]
  have al:=U8 (L.ext y) aK
  have a5:=al.len
  have a1:(x.args.drop 1).length<=4:=bF
  refine⟨V,V,V,?_⟩
  refine eB (n:=(x.args.drop 1).length) V (λah s' I=>J z I/\ic z I aA 1 s' ((cO f ((x.args.drop 1).take ah)).map Ce.i)) ⟨J.az _,by simpa[cO]using ic.nil z z aA 1⟩ ?_
  rintro ah s' m5 aS μ hk ⟨v,o5⟩ aQ
  have aP:=y.trans v
  refine dit (λt=>?_) λt=>?_
  .let⟨S,I⟩:=cK (x.args.drop 1) ah
   have K:=C.arg S (wS (aq I))
   have M:=H.ext aP
   refine⟨V,V,S,by simpa using(al.ext v).aE I,g,M.g3,K.1,V,_,M.ak.pJ K.1 K.2,?_⟩
   intro m6
   refine nZ o5 v (by simp[cO];omega) λag m7 q1 P=>⟨J.tG (v.aK _) P F,aQ V _ _ ⟨P,?_⟩⟩
   rw[aU I]
   simpa[cO]using q1
  .rw[bY V]at o5
   have i5:ap m5 s' (cO f (x.args.drop 1)):=ap.gB o5 (by simp[cO];omega)
   refine(Ei (ae.ext (aa.trans v)) (oh ai.fl)).aI (OS (od (aM s.heap w).aF) ai.fl) (λB T=>v.lt (F B T)) λps m6 o6 i6 ac=>⟨ps,rfl,?_⟩
   have ab:=v.trans ac
   refine(Cy i6 (i5.ext ac)).aI ab F λb2 m7 U aW S=>⟨b2,rfl,λh8=>bW (λu=>nb U h8 (u.2.2.2 R).2.1) (y.trans S),λh8=>?_⟩
   have ak:=yb U h8
   have P:=y.trans S
   have ao:aN cp 171 [vp i 0,.agg #[vi (aM s.heap w).aQ,vi (aM s.heap w).kD,O.v Y]] m7 λaR am=>eH [E.size,b.size] m7 am/\∃an:Bool,aR=vb an/\((an=true<->((aM s.heap w).aQ=1\/lD s.heap (aM s.heap w).aF))/\J b am):=
    (vZ (P.af A.ru) (cR.ext P A.heap) hI (aq W) (ae.ext (aa.trans S)) aJ).aI S F λb3 m8 M aY aD=>⟨b3,rfl,M,y.trans aD⟩
   have F7:=H.ext P
   have az:aE x.args 0<f.aZ.length:=V
   refine⟨λI=>⟨h,F7.g5,V,V,_,(L.ext P).pJ V V,D.1,V,_,F7.aZ.pJ D.1 az,λK=>bW (λu=>?_) P,λK=>ao.mono ?_⟩,λI=>ao.mono ?_⟩
   .simp at I K;exact K ((u.2.2.2 R).2.2.2 I)
   .rintro _ m8 ⟨hs,b3,rfl,M,ag⟩
    refine⟨hs,b3,rfl,eV (M.trans ?_) ag⟩
    simp at K
    exact⟨λhf=>⟨λq=>V,λq=>V,λq=>V,λ_=>⟨G,ak,hf,λ_=>K⟩⟩,λu=>(u.2.2.2 R).2.2.1⟩
   .rintro _ m8 ⟨hs,b3,rfl,M,ag⟩
    refine⟨hs,b3,rfl,eV (M.trans ?_) ag⟩
    simp at I
    exact⟨λhf=>⟨λq=>V,λq=>V,λq=>V,λ_=>⟨G,ak,hf,λq=>absurd q I⟩⟩,λu=>(u.2.2.2 R).2.2.1⟩
end
section
variable{b:E}{c:Nat}{a:aX}{d e h:O}
def uZ(ak:List Int):∀(b a aR:List Int),bB ak aR (b++a)=bB ak (bB ak aR b) a
 |[],a,aR=>rfl
 |y::b,a,aR=>by simp only[db,bB,uZ ak b a]
def MO{f fb:Nat}(i:af b f 0=some (vp fb c))(F:FP b fb c a d e h){x:Int}(g:0<=x/\x<a.ak.length):dw cp 98 [vi x,vp f 0] b (1000<=aE a.ak x):=by
 apply vj (f,0);have j:=F.ak.len;exact⟨(fb,c),i,d,F.g3,g.1,V,_,F.ak.pJ g.1 g.2,eV aL (J.az _)⟩
def PT{mb fb:Nat}{a4 bp aT u fr:O}{g:cU}{N:St}(R:RV b mb 3 a4 bp aT u fr g N)(bb:af b mb 2=some (vi (cr g))){fs:List aX}{x:Instr}(C:zy g N fs a x){au bm:O}(Q:FP b fb c a d e h)(Z:ap b au x.args)(a1:N.heap.length<=2000000000):
 dw cp 59 [vp mb 0,vp fb c,xv x au bm] b (lj g N a x (bB a.ak a.aR (bR g x))):=by
 apply xh (mb,0) (fb,c)
 simp -zeta only[aC,aB]
 intro m1 L
 have w:J b L:=((J.az b).aK _).aK _
 have s1:m1.size=b.size+1:=by simp[m1]
 have s2:L.size=b.size+2:=by simp[L,s1]
 have P:∀j∈[m1.size,b.size],j<L.size:=bF
 have kP:af L b.size 0=some (vp fb c):=((cJ.push b [.p fb c] _).ext (J.push m1 _)).cg 0
 clear_value L
 have bu:=Z.len
 have bK:=Q.ak.len
 have bG:=Q.aR.len
 have bw:=Q.aZ.len
 have bA:=C.Gk
 have hd:=C.dst
 have bi:=C.Zw
 refine⟨e,w.af Q.g4,(eO (Q.aR.ext w) V).aI V P λB m3 oq iq aI=>⟨B,rfl,?_⟩⟩
 have ay:=iq.len
 have aN:=w.trans aI
 refine(vU (R.fe.ext aN) (aN.af R.cE) C.call (Z.ext aN) (oh C.lH.1) C.lH.2.2.2.1).aI aI P ?_
 rintro _ U ⟨rs,ls,rfl,aD,aO,aJ,a3,a2⟩
 have a8:=aI.trans aJ
 have bo:=oq.ext aJ
 refine⟨aJ,rs,ls,rfl,?_⟩
 have bM:=Je g x
 have bs:=C.lH.1
 have bL:=aD.len
 have a_:=C.Kw
 have bj:∀ac∈a.aR,0<=ac:=λac T=>(C.OT ac T).1
 have bI:L.size<=B.D:=by
  rcases oq.D with k|k
  .subst k;simp at ay;omega
  .exact k
 have bJ:B.D<m3.size:=by
  rcases oq.lt with k|k
  .subst k;simp at ay;omega
  .exact k
 have aK:=C.arg
 have bE:=w.size
 have kr:∀{v:E},(∀j,j<U.size->j≠B.D->v[j]? =U[j]?)->ap v rs (bR g x):=λhk=>iX aD λG=>hk _ (iO aD G) λk=>by
  have ba:x.args≠[]:=λS=>by
   let⟨y,s⟩:=UJ _ G;have:=Cn s;rw[S]at this;simp at this
  rcases a3 with W|W|W
  .subst W;have:=aD.len;simp at this;exact G (List.length_eq_zero_iff.1 this.symm)
  .rw[W]at k;have:=iO Z ba;omega
  .omega
 have kl:∀{v:E},(∀j,j<U.size->j≠B.D->v[j]? =U[j]?)->ap v ls (if x.op=9\/x.op=24 then fI g x 0 x.args else[]):=λhk=>iX aO λG=>hk _ (iO aO G) λk=>by
  rcases a2 with W|W
  .subst W;have:=aO.len;simp at this;exact G (List.length_eq_zero_iff.1 this.symm)
  .omega
 refine dW (n:=(bR g x).length) V (λp v=>J L v/\(∀j,j<U.size->j≠B.D->v[j]? =U[j]?)/\ic L v aA 1 B ((bB a.ak a.aR ((bR g x).take p)).map Ce.i)/\∀ac∈bB a.ak a.aR ((bR g x).take p),0<=ac) ⟨a8,λ_ _ _=>rfl,bo,bj⟩ ?_
 rintro p m5 bq μ hk ⟨ad,al,aF,K⟩ aV
 have F5:=Q.ext (w.trans ad)
 have bc:=kv a.ak ((bR g x).take p) a.aR
 have az:ap m5 B (bB a.ak a.aR ((bR g x).take p)):=ap.gB aF V
 refine dit (λh6=>?_) λh6=>?_
 .let⟨y,s⟩:=cK (bR g x) p
  have q:=a_ y (aq s)
  have D:bB a.ak a.aR ((bR g x).take (p+1))=if 1000<=aE a.ak y then gJ (bB a.ak a.aR ((bR g x).take p)) y (aE (bB a.ak a.aR ((bR g x).take p)) y -1)else bB a.ak a.aR ((bR g x).take p):=by
   rw[aU s,uZ];rfl
  have H:y<(bB a.ak a.aR ((bR g x).take p)).length:=V
  have aW:=K _ (fm q.1 H)
  have aY:aE (bB a.ak a.aR ((bR g x).take p)) y<=999999:=by
   let⟨q',M,ak⟩:=lz ((bR g x).take p) a.aR y.toNat _ (lI q.1 H);have:=(C.OT q' (aq M)).2;omega
  refine⟨V,V,y,by simpa using(kr al).aE s,d,F5.g3,q.1,V,_,F5.ak.pJ q.1 q.2,λA=>?_,λA=>aV V _ ⟨ad,al,by rw[D,ae (by simpa using A)];exact aF,by rw[D,ae (by simpa using A)];exact K⟩⟩
  simp at A
  rw[ao A]at D
  refine⟨q.1,V,_,az.pJ q.1 H,q.1,V,?_⟩
  have e1:cT (aE (bB a.ak a.aR ((bR g x).take p)) y -1)=aE (bB a.ak a.aR ((bR g x).take p)) y -1:=aP V V
  rw[e1]
  rcases aF.aE with aH|⟨X,am,tail,z1,z2,z3,z4,z5⟩
  .rw[aH]at ay;simp at ay;omega
  .have a5:B.off=0:=by rw[z1];rfl
   have aa:B.D=X:=by rw[z1];rfl
   have ah:B.off+y.toNat*1=y.toNat:=V
   rw[ah,aa]
   have ax:y.toNat<((bB a.ak a.aR ((bR g x).take p)).map Ce.i).length:=bF
   refine⟨z3.fL (by simp only[be];omega),?_⟩
   intro m6
   have F:J L m6:=ad.ah V _ _
   have an:∀j,j<U.size->j≠B.D->m6[j]? =U[j]? :=λj t G=>by rw[bd _ _ _ _ V];exact al j t G
   have o6:ic L m6 aA 1 B ((bB a.ak a.aR ((bR g x).take (p+1))).map Ce.i):=by
    rw[D];refine⟨by rw[eu,jz,<-eu (f:=Ce.i)];exact aF.len,Or.inr ⟨X,am,tail,z1,z2,?_,?_,z5⟩⟩
    .have:=cJ.ah (m:=m5) (o:=y.toNat) (r:=[.i (aE (bB a.ak a.aR ((bR g x).take p)) y -1)]) z3;have e6:jm ((bB a.ak a.aR ((bR g x).take p)).map Ce.i++tail) y.toNat [.i (aE (bB a.ak a.aR ((bR g x).take p)) y -1)]=(gJ (bB a.ak a.aR ((bR g x).take p)) y (aE (bB a.ak a.aR ((bR g x).take p)) y -1)).map Ce.i++tail:=by
      simp only[jm,gJ,ud];rw[Mx _ _ ax]
     rw[e6]at this;exact this
    .simp only[be,eu,jz]at z4⊢;exact z4
   have a0:=kv a.ak ((bR g x).take (p+1)) a.aR
   have aS:ap m6 B (bB a.ak a.aR ((bR g x).take (p+1))):=ap.gB o6 V
   have Y:aE (bB a.ak a.aR ((bR g x).take (p+1))) y=aE (bB a.ak a.aR ((bR g x).take p)) y -1:=by rw[D,Rz q.1 H y q.1,ao rfl]
   have ag:=aS.pJ (i:=y) q.1 V
   rw[Y,ah,aa]at ag
   refine⟨J.tG ad F P,q.1,V,_,ag,λh8=>bW (λz=>?_) (w.trans F),λh8=>aV V _ ⟨F,an,o6,λac T=>?_⟩⟩
   .simp at h8
    have ab:bB a.ak a.aR (bR g x)=bB a.ak (bB a.ak a.aR ((bR g x).take (p+1))) ((bR g x).drop (p+1)):=by rw[<-uZ,dp]
    have aw:y<(bB a.ak a.aR (bR g x)).length:=by rw[kv];omega
    have I:=lI (l:=bB a.ak a.aR (bR g x)) q.1 aw
    have aZ:=z.nn _ (aq I)
    rw[ab]at I
    let⟨q',M,ak⟩:=lz _ _ _ _ I
    have aQ:=HL M
    rw[Y]at aQ
    rw[<-ab]at ak
    omega
   .rw[D]at T
    rcases pP T with T|T
    .simp at h8;omega
    .exact K ac T
 .have bk:(bR g x).take p=bR g x:=bY V
  rw[bk]at az K bc
  have aQ:=kl al
  generalize bH:bB a.ak a.aR (bR g x)=aR at*
  have bf:=aQ.len
  refine⟨λv=>J m5 v/\(mf x.op->aE aR x.dst<=0),?_,?_⟩
  .refine(rC _ _ ⟨V,V⟩).aI ad P λj m6 t ag F=>⟨j,rfl,λH=>⟨hd.1,V,_,(az.ext ag).pJ hd.1 V,λA=>bW (λz=>?_) (w.trans F),λA=>⟨ag,λ_=>by simpa using A⟩⟩,λD=>⟨ag,λI=>absurd I (Go.Vc.fb t D)⟩⟩
   have:=z.dst (t.1 H);simp at A;omega
  .rintro m6 ⟨ag,aa⟩
   have bn:∀(an:List Int)(jj:Nat)(y:Int),y∈fI g x jj an->y∈an:=by
    intro an;induction an with
    |nil=>intro jj y h;simp[fI]at h
    |cons D an A=>
     intro jj y h;simp only[fI]at h;split at h
     .rcases List.mem_cons.1 h with rfl|h
      .exact bg
      .exact ai _ (A _ _ h)
     .exact ai _ (A _ _ h)
   generalize ax:(if x.op=9\/x.op=24 then fI g x 0 x.args else[])=LL at*
   have a9:∀y∈LL,0<=y/\y<a.ak.length:=λy s=>by
    rw[<-ax]at s;split at s
    .exact aK y (bn _ _ _ s)
    .simp at s
   refine dW (n:=LL.length) (bf▸aQ.gY) (λp v=>J m5 v/\∀y∈LL.take p,1000<=aE a.ak y->fW N.heap (aE a.ak y)) ⟨ag,aL⟩ ?_
   rintro k2 m7 I2 μ2 bz ⟨ah,am⟩ aS
   have Y:=ad.trans ah
   have A:=w.trans Y
   have H:=Q.ext A
   refine dit (λh8=>?_) λh8=>?_
   .let⟨y,s⟩:=cK LL k2
    have q:=a9 y (aq s)
    refine⟨V,V,y,by simpa using(aQ.ext ah).aE s,d,H.g3,q.1,V,_,H.ak.pJ q.1 q.2,λF=>?_,λF=>aS V _ ⟨ah,bD s am λu=>by simp at F;omega⟩⟩
    simp at F
    refine(Lh (A.af R.ru) (cR.ext A R.heap) (C.F.pT q.1 q.2 C.MI).2).aI Y P λj m8 t ak I=>⟨j,rfl,λD=>bW (λz=>?_) (w.trans I),λD=>aS V _ ⟨ah.trans ak,bD s am λ_=>yb t D⟩⟩
    have M:=aq s
    rw[<-ax]at M
    split at M
    .rename_i e9;exact nb t D (z.cW e9 y M F)
    .simp at M
   .rw[bY V]at am
    have ab:(x.op=9\/x.op=24)->KD g N.heap a x:=λe9=>by rw[ao e9]at ax;rw[<-ax]at am;exact am
    have bl:=az.ext ah
    have hV:=R.ext A
    have aW:1<=x.args.length->0<=aE x.args 0/\aE x.args 0<a.ak.length:=λX=>aK _ (fm V V)
    have ga:∀{v},J b v->1<=x.args.length->af v au.D (au.off+Int.toNat (0:Int)*1)=some (vi (aE x.args 0)):=λhx X=>(Z.ext hx).pJ V V
    clear aV aS al kr kl bi a3 a2
    refine⟨λk=>?_,λe1=>?_⟩
    .simp only[bT,aG]at k
     refine(jd (Z.ext A) 98 #[] #[vp b.size 0] bh (λy=>1000<=aE a.ak y) (λy s v aw=>?_)).aI Y (λj t=>P j (by simp at t;simp[t])) λj m8 t ak I=>⟨j,rfl,eV ?_ (w.trans I)⟩
     .simpa using MO (aw.af (Y.af kP)) (H.ext aw) (aK y s)
     .have aH:(!j)=true<->¬(j=true):=aL
      rw[aH,t]
      constructor
      .intro aY
       have u:∀y∈x.args,aE a.ak y<1000:=λy s=>by
        rcases dT (1000<=aE a.ak y)with X|X
        .exact absurd ⟨y,s,X⟩ aY
        .omega
       have M:x.op≠6/\x.op≠24/\x.op≠23/\x.op≠11/\x.op≠14/\x.op≠15/\x.op≠16/\x.op≠17/\x.op≠19/\x.op≠21:=by rcases k with k|k|k|k|k|k<;>rw[k]<;>decide
       exact⟨K,aa,λ_=>u,λq=>absurd q M.1,ab,λq=>q.elim (λh=>absurd h M.2.1) (λh=>absurd h M.2.2.1),λq=>absurd q M.2.2.1,λq=>absurd q M.2.2.2.1,λq=>absurd q M.2.2.2.2.1,λq=>absurd q M.2.2.2.2.2.1,λq=>q.elim (λh=>absurd h M.2.2.2.2.2.2.1) (λh=>absurd h M.2.2.2.2.2.2.2.1),λq=>absurd q M.2.2.2.2.2.2.2.2.1,λq=>absurd q M.2.2.2.2.2.2.2.2.2⟩
      .rintro z ⟨y,s,X⟩
       have:=z.nV V y s;omega
    simp only[bt,aj]at e1
    refine⟨λk=>?_,λe6=>?_⟩
    .simp only[aG]at k
     have bx:=C.lH.2.2.2.2.1 k
     have iQ:FA N.heap a x->lj g N a x aR:=λu=>by
      refine⟨K,aa,?_,?_,ab,?_,?_,?_,?_,?_,?_,?_,?_⟩<;>intro q<;>first|(exfalso;omega)|exact u
     refine⟨λF=>?_,λF=>iV (iQ λG=>absurd (by simpa using F) G) A⟩
     simp at F
     have aZ:cT (x.bZ -1)=x.bZ -1:=aP V V
     rw[aZ]
     have M:0<=x.bZ -1/\x.bZ -1<a.aZ.length:=V
     refine⟨h,H.g5,V,V,_,H.aZ.pJ M.1 M.2,λD=>?_,λD=>iV (iQ λ_ G=>absurd (by simpa using D) G) A⟩
     simp at D
     obtain⟨T,dd,aH,_⟩:=C.Lk _ (fm M.1 M.2) D
     have bC:=av aH
     have a6:ix (aE a.aZ (x.bZ -1))=(aE a.aZ (x.bZ -1) -1000).toNat:=rfl
     have a0:cT (aE a.aZ (x.bZ -1) -1000)=aE a.aZ (x.bZ -1) -1000:=aP V V
     have bv:=R.heap.len
     let⟨f9,a5,k0,k1,a7⟩:=(cR.ext A R.heap).aE aH
     have br:=a5.len
     have aY:aM N.heap (aE a.aZ (x.bZ -1))=dd:=by simp[aM,aH]
     refine⟨u,hV.ru,h,H.g5,V,V,_,H.aZ.pJ M.1 M.2,?_⟩
     rw[a0,<-a6]
     refine⟨V,V,f9,a7,eV ?_ A⟩
     simp only[aG]
     refine⟨λaw=>iQ λ_ _=>by rw[aY];omega,λz=>?_⟩
     have:=z.js k F D
     rw[aY]at this;omega
    simp only[aj]at e6
    refine⟨λk=>?_,λa6=>?_⟩
    .simp only[bT,aG]at k
     refine(yf bl).aI Y P λj m8 t ak I=>⟨j,rfl,λF=>bW (λz=>nb t F (z.zero k).1) (w.trans I),λF=>?_⟩
     have F8:=Q.ext (w.trans I)
     refine⟨h,F8.g5,(yf F8.aZ).aI I P λb2 m9 a0 br aZ=>⟨b2,rfl,λD=>bW (λz=>nb a0 D (z.zero k).2) (w.trans aZ),λD=>?_⟩⟩
     have M:=w.trans aZ
     have F9:=Q.ext M
     have iQ:(x.op=23->1<N.an.length\/aE a.ak (aE x.args 0)<1000)->lj g N a x aR:=λu=>by
      refine⟨K,aa,?_,?_,ab,?_,?_,?_,?_,?_,?_,?_,?_⟩<;>intro q<;>first|exact u q|(exfalso;omega)|exact⟨(yb t F),(yb a0 D)⟩
     have bv:=R.an.len
     refine⟨λaw=>iV (iQ λq=>by simp at aw;omega) M,λaw=>⟨fr,M.af R.OH,λaH=>iV (iQ λ_=>Or.inl (by simp at aH;omega)) M,λaH=>?_⟩⟩
     simp at aw aH
     have a5:x.op=23:=V
     have X:=C.lH.2.1 V
     have S:=aW V
     refine⟨d,F9.g3,V,V,_,ga M V,S.1,V,_,F9.ak.pJ S.1 S.2,eV ?_ M⟩
     simp
     refine⟨λa7=>iQ λ_=>Or.inr a7,λz=>?_⟩
     rcases z.ret a5 with aY|aY
     .omega
     .exact aY
    simp only[bt,aj]at a6
    refine⟨λk=>?_,λz=>?_⟩
    .simp only[aG]at k
     refine(HV hV (A.af bb) C H (Z.ext A) k a1).aI Y P λj m8 t ak I=>⟨j,rfl,eV (t.trans ?_) (w.trans I)⟩
     refine⟨λu=>?_,λh=>h.apply k⟩
     refine⟨K,aa,?_,?_,ab,?_,?_,?_,?_,?_,?_,?_,?_⟩<;>intro q<;>first|(exfalso;omega)|exact u
    simp only[aj]at z
    refine⟨λk=>?_,λF=>?_⟩
    .simp only[aG]at k
     have X:=C.lH.2.1 V
     have S:=aW V
     refine⟨d,H.g3,V,V,_,ga A V,S.1,V,_,H.ak.pJ S.1 S.2,eV ?_ A⟩
     simp only[oH,ar]
     refine⟨λu=>?_,λh=>h.drop k⟩
     refine⟨K,aa,?_,?_,ab,?_,?_,?_,?_,?_,?_,?_,?_⟩<;>intro q<;>first|(exfalso;omega)|exact u
    simp only[aj]at F
    refine⟨λk=>?_,λD=>?_⟩
    .simp only[bT,aG]at k
     refine(Eh hV C H (Z.ext A) V a1).aI Y P λj m8 t ak I=>⟨j,rfl,eV (t.trans ?_) (w.trans I)⟩
     refine⟨λu=>?_,λh=>⟨h.VF,h.load,h.Fp,h.NL⟩⟩
     refine⟨K,aa,?_,?_,ab,?_,?_,?_,u.1,?_,u.2.2.2,u.2.1,u.2.2.1⟩<;>intro q<;>exfalso<;>omega
    .simp only[bt,aj]at D
     refine iV ?_ A
     refine⟨K,aa,?_,?_,ab,?_,?_,?_,?_,?_,?_,?_,?_⟩<;>intro q<;>exfalso<;>omega
end
section
variable{N c:Nat}{b:Nat->Nat}{a:E}{h:List bN}
def nk(w:Int)(a:E):HA cp 109 [vi w] a (vi (gN w)):=by
 apply wa;unfold gN;exact⟨λh=>by simp at h;rw[ao h];exact⟨rfl,J.az _⟩,λh=>by simp at h;rw[ae V];exact⟨rfl,J.az _⟩⟩
def uH{d:O}(s:dN N b a d h)(A:∀e,a.size<=e->b e=0)(kb:cJ a c eE [.s d])(C:b c=5)(H:h.length<=2000000000):
 aN cp 176 [vp c 0] a λ_ g=>dN N b g (d.cut 0 (jw h h.length) 3) (ny h)/\cJ g c eE [.s (d.cut 0 (jw h h.length) 3)]/\HC b a b g:=by
 apply Ad (c,0)
 have G:=s.len
 have t:=s.cells V
 have E:=t.cap
 have j:af a c 0=some (O.v d):=kb.cg 0
 refine⟨d,j,λl g=>g=a/\∃n:Nat,l=n/\n<=h.length/\jw h n=jw h h.length,λl _=>l.toNat,⟨rfl,h.length,V,ad _,rfl⟩,?_⟩
 rintro l e ⟨rfl,n,rfl,B,u⟩
 have x:Int.toNat (0:Int)=0:=rfl
 have en:Int.toNat (n:Int)=n:=V
 have iQ:jw h n=n->dN N b (ah e c 0 [.s (d.cut 0 n 3)]) (d.cut 0 (jw h h.length) 3) (ny h)/\cJ (ah e c 0 [.s (d.cut 0 n 3)]) c eE [.s (d.cut 0 (jw h h.length) 3)]/\HC b e b (ah e c 0 [.s (d.cut 0 n 3)]):=λw=>by
  have f:dq (λk=>k=5) b e b (ah e c 0 [.s (d.cut 0 n 3)]):=dq.ah A C _ _;have i:jw h h.length=n:=by rw[<-u,w]
  rw[i];refine⟨?_,cJ.ah (m:=e) (o:=0) (r:=[.s (d.cut 0 n 3)]) kb,f.mono λk z=>Or.inr (Or.inl z)⟩;have:=(s.eJ f bh bh).cut B;unfold ny;rw[i];exact this
 refine⟨λp=>?_,λp=>?_⟩
 .simp only[kQ,ar]at p
  obtain⟨k,rfl⟩:∃k,n=k+1:=⟨n -1,V⟩
  have i:cT (((k+1:Nat):Int) -1)=(k:Int):=by rw[aP V V];omega
  let⟨v,f⟩:=cK h k
  obtain⟨D,F,y,_⟩:=t.aE f
  refine⟨d,j,?_⟩
  rw[i]
  refine⟨V,V,v.aQ,by simpa using y,λq=>⟨⟨rfl,k,rfl,V,?_⟩,by show(k:Int).toNat<((k+1:Nat):Int).toNat;omega⟩,λq=>⟨d,j,V,V,V,kb.fL aL,?_⟩⟩
  .rw[<-u,Qo f (by simpa using q)]
  .rw[x,en];exact iQ (Ms f (by simpa using q))
 .simp only[kQ,bM]at p
  have q:n=0:=V
  subst q
  exact⟨d,j,V,V,V,kb.fL aL,iQ rfl⟩
def Gb{e:O}(hh:dN N b a e h)(hn:∀g,a.size<=g->b g=0)(kb:cJ a c eE [.s e])(hr:b c=5){v:Int}{W:Nat->Int}(hI:fO h (λg=>W g+eD [v] g))(he:∀g,0<=W g)(a0:h.length<=2000000000):
 aN cp 107 [vp c 0,vi v] a λ_ q=>∃u aw,dN N u q aw (ny (gX h [v]))/\cJ q c eE [.s aw]/\HC b a u q:=by
 apply Ac (c,0)
 intro r
 have X:J a r:=(J.az a).aK _
 have s1:r.size=a.size+1:=by simp[r]
 have o1:ic a r aA 1 (.mk a.size 0 1 1) ([v].map Ce.i):=ic.new (J.az a) aA 1 _ 1 aL
 have c1:HC b a (oG b a.size 6) r:=dq.oG X hn (ad _) V 6
 have a1:iP (oG b a.size 6) r aA 1 6 (.mk a.size 0 1 1) ([v].map Ce.i):=iP.gB o1 λ_=>fJ _ _ _
 have aK:dN N (oG b a.size 6) r e h:=hh.eJ (dq.oG (p:=λ_=>False) X hn (ad _) V 6) id id
 have aT:=kb.ext X
 have aO:oG b a.size 6 c=5:=by rw[eW (oh kb.lt)];exact hr
 clear_value r
 have aX:=OI λaE d=>(hI.cell aE d).fl
 have aY:=hh.len
 refine Pe (γ:=List bN×List Int) (λi G q=>∃u,dN N u q e i.1/\iP u q aA 1 6 G (i.2.reverse.map Ce.i)/\HC b a u q/\fO i.1 (λg=>W g+eD i.2 g)/\gX i.1 i.2=gX h [v]/\i.1.length=h.length/\i.2.length+Cr i.1<=1+Cr h/\cJ q c eE [.s e]/\u c=5) (λi=>Cq i.1+i.2.length) (h,[v])
  ⟨_,aK,a1,c1,hI,rfl,rfl,aL,aT,aO⟩ ?_
 rintro⟨d,st⟩ G m2 aU μ ⟨m,B,a2,i,t,y,K,ak,P,z⟩ ae
 simp only[]at B a2 t y K ak
 have az:G.len=st.length:=by have:=a2.len;simp at this;omega
 refine⟨λY=>?_,λY=>?_⟩
 .simp only[kQ,ar]at Y
  cases st with
  |nil=>simp at az;omega
  |cons x s=>
   simp only[Qy]at a2
   let⟨p1,p2,p3⟩:=a2.Vl
   simp only[ba,mZ]at az p1 p2 p3 ak
   have e1:cT ((G.len:Int) -1)=(s.length:Int):=by rw[aP V V];omega
   have aV:=a2.le
   have e2:Int.toNat (0:Int)=0:=rfl
   have e3:Int.toNat (s.length:Int)=s.length:=V
   have aB:1000<=x->fW d x:=λM=>t.PE he M
   have aS:x<=9223372036854775807:=by
    rcases dT (1000<=x)with k|k
    .have:=av (bS (aB k)).1;unfold ix at this;omega
    .omega
   refine⟨e,P.cg 0,?_⟩
   rw[e1,e2,e3]
   refine⟨V,V,x,p2,(iB (B.cells V) aS).mono ?_⟩
   rintro _ Q ⟨aD,g,rfl,ah,aI,n⟩
   refine⟨aD,g,rfl,V,V,V,λaJ=>?_,λai=>?_⟩
   .have M:=nb ah aJ
    have H:HC m m2 m Q:=dq.eI _ n i.new
    refine ae (d,s) _ _ ⟨m,B.eJ (dq.eI (λ_=>False) n i.new) id id,p3.eJ (dq.eI (λ_=>False) n i.new) id,i.trans H,t.RF ?_,?_,K,by simp only[];omega,P.ext n,z⟩ aL
    .rcases dT (1000<=x)with k|k
     .exact absurd (aB k) M
     .omega
    .rw[<-qD (w:=x) M];exact y
   .have E:=yb ah ai
    have aH:=aI (by simpa using ai)
    subst aH
    let⟨j,ax⟩:=bS E
    have an:=av j
    have aZ:=(t.cell _ (aq j)).hi
    have aF:Int.toNat ((ix x:Nat):Int)=ix x:=V
    have H:HC m m2 m Q:=dq.eI _ n i.new
    have C:dN N m Q e d:=B.eJ (dq.eI (λ_=>False) n i.new) id id
    have a3:=p3.eJ (dq.eI (λ_=>False) n i.new) id
    have F:=P.ext n
    obtain⟨f0,g0,_,_,_,_⟩:=C.cg j
    refine⟨e,F.cg 0,?_⟩
    rw[aF]
    refine⟨V,V,_,g0,V,V,C.wr (o:=0) an bh,?_⟩
    have e5:cT ((aM d x).aQ -1)=(aM d x).aQ -1:=aP V V
    rw[e5]
    intro m4
    let⟨ab,T⟩:=C.rG H.new j ((aM d x).aQ -1)
    have a4:=a3.eJ T bh
    have A:cJ m4 c eE [.s e]:=F.congr (T.eC _ F.lt (by rw[z];decide))
    have S:HC b a m m4:=(i.trans H).trans (T.mono λaC D=>Or.inl D)
    have Z:=kJ (d:=ji) j
    simp only[ao ax,ji]at Z
    simp at Z
    have aR:(d.set (ix x) {aM d x with aQ:=(aM d x).aQ -1})[ix x]? =some {aM d x with aQ:=(aM d x).aQ -1}:=eK j
    obtain⟨f1,k0,_,k2,kf,kr⟩:=ab.cg aR
    refine⟨e,A.cg 0,V,V,_,k0,λk=>?_,λk=>?_⟩
    .simp only[aG]at k
     have au:(aM d x).aQ=1:=V
     have aW:=(t.cell _ (aq j)).fl
     have aa:=kf.len
     simp only[]at aa kf kr
     have I:=zW ji j
     simp only[ji,eX]at I
     refine⟨e,A.cg 0,V,V,f1,k2,iP.append (zs:=[.i 0]) (c:=(aM d x).aF.map Ce.i) a4 S.new (by simp[aa]) kf.Il ?_ λaf a5 m5 q1 R=>?_⟩
     .have:(G.cut 0 s.length 1).len=s.length:=by have:=a4.len;simp at this;omega
      rw[this,aa];omega
     have al:=ab.eJ R bh bh
     have ag:HC b a af m5:=S.trans (R.mono λaC D=>Or.inr (Or.inr D))
     have ac:cJ m5 c eE [.s e]:=A.congr (R.eC _ A.lt (by rw[z];decide))
     have ay:af c=5:=by rw[R.gZ _ A.lt];exact z
     have ap:ix x<(d.set (ix x) {aM d x with aQ:=(aM d x).aQ -1}).length:=by simpa using an
     refine⟨e,ac.cg 0,V,V,al.wr (o:=0) ap bh,?_⟩
     intro m7
     let⟨am,U⟩:=al.setCell ag.new ap 0 0 (f:=.nil) (l:=[]) ⟨rfl,aL,aL,aL⟩ (λL=>absurd rfl L)
     rw[Xz]at am
     refine ae (d.set (ix x) ji,(aM d x).aF.reverse++s) _ _ ⟨af,am,?_,ag.trans (U.mono λaC D=>Or.inl D),t.RG he E au,?_,by simpa using K,?_,ac.congr (U.eC _ ac.lt (by rw[ay];decide)),ay⟩ ?_
     .have:=q1.eJ U bh
      simpa using this
     .rw[<-td E au];exact y
     .simp only[be,mZ]
      have D:Cr (d.set (ix x) ji)+(aM d x).aF.length=Cr d:=by simpa[ji]using I
      omega
     .simp only[be,mZ,ba]
      have D:Cq (d.set (ix x) ji)+((aM d x).aQ.toNat+(aM d x).aF.length)=Cq d:=by simpa[ji]using Z
      omega
    .simp only[aj]at k
     have L:(aM d x).aQ≠1:=V
     have D:=kJ (d:={aM d x with aQ:=(aM d x).aQ -1}) j
     simp only[ao ax]at D
     rw[ao V]at D
     have I:=zW {aM d x with aQ:=(aM d x).aQ -1} j
     refine ae (ft d x,s) _ _ ⟨m,ab,a4,S,t.PF he E L,?_,by simpa[ft]using K,?_,A,z⟩ ?_
     .rw[<-qC E L];exact y
     .simp only[ft];simp only[]at I;omega
     .simp only[ft,ba];omega
 .simp only[kQ,bM]at Y
  have j:st=[]:=List.length_eq_zero_iff.1 V
  subst j
  rw[tc]at y
  subst y
  refine(uH B i.new P z V).mono ?_
  rintro _ Q ⟨C,F,g⟩
  exact⟨m,_,C,F,i.trans g⟩
def PL{i:O}(f:cR a i h):aN cp 216 [O.v i,.func (.func 217) #[] #[]] a λB j=>∃r:Int,B=vi r/\J a j/\(if dH h=h.length then r= -1 else r=dH h):=by
 apply ms i (.func 217,#[],#[]);have y:=f.len;refine dW (n:=h.length) (y▸f.gY) (λk j=>J a j/\∀b∈h.take k,b.aQ≠0) ⟨J.az _,aL⟩ ?_;rintro k o I μ x ⟨e,g⟩ A
 refine dit (λs=>?_) λs=>?_
 .let⟨b,d⟩:=cK h k;let⟨l,C,q,g1,g2⟩:=(cR.ext e f).aE d;refine⟨V,V,b.aQ,by simpa using q,_,by simpa using g1,l,by simpa using g2,217,rfl,bh,?_⟩;have v:dw cp 217 [.agg #[vi b.aQ,vi b.kD,O.v l]] o (b.aQ=0):=by
   apply vV;simp -zeta only[aC,aB];intro z;exact eV aL ((J.az o).aK _)
  refine aN.mono v ?_;rintro _ z ⟨p,rfl,c,m⟩;refine⟨p,rfl,λu=>⟨_,rfl,e.trans m,?_⟩,λt=>A V _ ⟨e.trans m,bD d g (fb c t)⟩⟩;have w:=HP h k b g d (c.1 u);have:=av d;rw[ae V,w]
 .refine⟨_,rfl,e,?_⟩;have:=zV h k x g;have:=qF h;rw[ao V]
def Ef{e:O}(l:dN N b a e h)(B:∀s,a.size<=s->b s=0)(kb:cJ a c eE [.s e])(P:b c=5)(G:Int){Y:O}{E:List Int}(hf:ap a Y E)(aq:h.length<=1000000000)(hl:E.length<=1000000000)(hN:N<=a.size):
 aN cp 175 [vp c 0,vi G,O.v Y] a λak S=>∃i aa,ak=vi (1000+dH h)/\dN N i S aa (js h (dH h) ⟨1,G,E⟩)/\cJ S c eE [.s aa]/\HC b a i S:=by
 apply yI (c,0)
 simp -zeta only[aC,aB]
 refine(eO hf hl).then hl λW y o1 i1 Z=>⟨W,rfl,?_⟩
 intro m2 F
 have z:J y F:=((J.az y).aK _).ah (ad _) _ _
 have s3:F.size=y.size+1:=by simp[F,m2,aw]
 have Q:=Z.trans z
 clear_value F
 have ab:E≠[]->b W.D=0:=λah=>by
  rcases o1.D with j|j
  .subst j;have:=i1.len;simp at this;exact absurd (List.length_eq_zero_iff.1 this.symm) ah
  .exact B _ j
 have L:b y.size=0:=B _ Z.size
 have am:=l.len
 have al:=qF h
 refine⟨e,Q.af (kb.cg 0),(PL (cR.ext Q (l.cells V))).mono ?_⟩
 rintro _ g ⟨aj,rfl,q,C⟩
 have w:=Q.trans q
 have t:HC b a b g:=dq.eI _ w B
 have M:dN N b g e h:=l.eJ (dq.eI (λ_=>False) w B) id id
 have n:=kb.ext w
 have i4:=i1.ext (z.trans q)
 have an:=q.size
 refine⟨q.dy bF,aj,rfl,λj=>?_,λj=>?_⟩
 .simp at j
  have A:dH h=h.length:=by
   rcases dT (dH h=h.length)with u|u
   .exact u
   .rw[ae u]at C;omega
  refine⟨e,n.cg 0,e,n.cg 0,?_⟩
  intro p
  have k:J g p:=(J.az g).aK _
  have s5:p.size=g.size+1:=by simp[p]
  have jC:fR p g.size 0 [.i 1,.i G,.s W]:=(cJ.push g _ _).iJ
  have X:HC b a b p:=t.trans (dq.eI _ k t.new)
  clear_value p
  refine⟨k.de (n.cg 0),dN.push (M.eJ (dq.eI (λ_=>False) k t.new) id id) X.new (x:=.mk g.size 0 1 1) rfl jC (i4.ext k) (Rt.of l (λK=>(w.trans k).same _ (l.D K).2) (λ_=>o1.ext ((z.trans q).trans k)) ab hN) V λi af T U d=>?_⟩
  have R:=n.ext k
  have ac:cJ T c eE [.s e]:=R.congr (d.eC _ R.lt (by rw[P];decide))
  have ai:i c=5:=by rw[d.gZ _ R.lt];exact P
  have ag:i y.size=0:=by rw[d.gZ _ V];exact L
  refine⟨λs f=>?_,ac.fL aL,?_⟩
  .simp at f;subst f
   exact d.eC _ V (by rw[L];decide)
  intro m7
  have H:dq (λD=>D=5) i T i m7:=dq.ah d.new ai _ _
  have I:cT (1000+(e.len:Int))=1000+(dH h:Int):=by rw[aP V V];omega
  rw[I]
  refine⟨λs f=>?_,i,af,rfl,?_,cJ.ah (m:=T) (o:=0) (r:=[.s af]) ac,(X.trans (d.mono λD v=>Or.inl v)).trans (H.mono λD v=>Or.inr (Or.inl v))⟩
  .simp at f;subst f
   exact H.eC _ (oh d.size) (by rw[ag];decide)
  .rw[js,ao A];exact U.eJ H bh bh
 .simp at j
  have A:dH h≠h.length:=λu=>by rw[ao u]at C;omega
  rw[ae A]at C
  subst C
  have k:dH h<h.length:=V
  have H:Int.toNat ((dH h:Nat):Int)=dH h:=V
  have I:cT (1000+(dH h:Int))=1000+(dH h:Int):=aP V V
  refine⟨e,n.cg 0,?_⟩
  rw[H,I]
  refine⟨V,V,M.wr (o:=0) k bh,?_⟩
  intro p
  let⟨U,d⟩:=M.setCell t.new k 1 G i4 (Rt.of l (λK=>w.same _ (l.D K).2) (λ_=>o1.ext (z.trans q)) ab hN)
  refine⟨λs f=>?_,b,e,rfl,?_,n.congr (d.eC _ n.lt (by rw[P];decide)),t.trans (d.mono λD v=>Or.inl v)⟩
  .simp at f;subst f
   exact d.eC _ V (by rw[L];decide)
  .rw[js,ae A];exact U
end
section
variable{l:List Int}
def OL{i a b:Int}(l:gR a)(m:gR b)(o:E):HA cp 174 [vi i,vi a,vi b] o (vi (OU i a b)):=by
 unfold gR at l m;have s: -2000000<=a*b/\a*b<=2000000:=by
  have c:(a*b).natAbs<=999*999:=by rw[Int.natAbs_mul];exact Mz V V
  omega
 have k:∀n:Int,(if(999:Int)<(if(-999:Int)>n then(-999:Int)else n)then(999:Int)else(if(-999:Int)>n then(-999:Int)else n))=FI n:=λn=>by
  unfold FI;repeat' split
  all_goals omega
 have p:cT (a+b)=a+b:=aP V V;have q:cT (a -b)=a -b:=aP V V;have r:cT (a*b)=a*b:=aP V V;apply JN;rw[p,q,r,k,k,k];unfold OU;refine⟨λh=>by simp at h;omega,λ_=>⟨λh=>by simp at h;omega,λ_=>⟨λh=>by simp at h;omega,λ_=>⟨λh=>by simp at h;omega,λ_=>⟨λc=>?_,λc=>⟨λd=>?_,λd=>⟨λe=>?_,λe=>⟨λf=>⟨λj=>?_,λj=>?_⟩,λf=>?_⟩⟩⟩⟩⟩⟩⟩⟩
 .simp at c;rw[ao c];exact⟨rfl,J.az _⟩
 .simp at c d;rw[ae c,ao d];exact⟨rfl,J.az _⟩
 .simp at c d e;rw[ae c,ae d,ao e];exact⟨rfl,J.az _⟩
 .simp at c d e f j;have g:i=4/\a<b:=⟨f,j⟩;rw[ae c,ae d,ae e,ao g];exact⟨rfl,J.az _⟩
 .simp at c d e f j;have g:¬(i=4/\a<b):=V;rw[ae c,ae d,ae e,ae g];exact⟨rfl,J.az _⟩
 .simp at c d e f;have g:¬(i=4/\a<b):=V;rw[ae c,ae d,ae e,ae g];exact⟨rfl,J.az _⟩
def vk{a:E}{fb e:Nat}{f:aX}{j:O}(w:af a fb (e+3)=some (O.v j))(p:ap a j f.ak){s:O}(q:ap a s l)(A:∀y∈l,0<=y/\y<f.ak.length)(L:l.length<=100000000):
 oJ 106 [vp fb e,O.v s] a (cO f l):=by
 apply xf (fb,e)
 have K:=q.len
 have H:=p.len
 have t:Int.toNat (s.len:Int)=l.length:=V
 rw[t]
 refine⟨V,dx _,V,V,?_⟩
 intro d
 have z:J a d:=(J.az a).aK _
 have C:cJ d a.size aA ((dm l.length).map Ce.i):=by rw[<-ua];exact cJ.push a _ _
 have M:d.size=a.size+1:=by simp[d]
 clear_value d
 simp only[O.jI,O.nm,O.gK,bV]
 refine dW (n:=l.length) V (λk b=>J a b/\cJ b a.size aA ((cO f (l.take k)++dm (l.length -k)).map Ce.i)) ⟨z,by simpa[cO]using C⟩ ?_
 rintro k D I μ G ⟨b,c⟩ F
 refine dit (λx=>?_) λx=>?_
 .let⟨y,h⟩:=cK l k
  have i:=A y (aq h)
  have v:Int.toNat (k:Int)*1=k:=V
  refine⟨V,V,y,by simpa using b.af (q.aE h),j,b.af w,i.1,V,_,b.af (p.pJ i.1 i.2),V,V,?_⟩
  rw[v]
  have g:(cO f (l.take k)).length=k:=by simp[cO];omega
  refine⟨c.fL (by simp[g,kG];omega),?_⟩
  refine F V _ ⟨b.ah (ad _) _ _,?_⟩
  have:=cJ.ah (m:=D) (o:=k) (r:=[.i (aE f.ak y)]) c
  have u:jm ((cO f (l.take k)++dm (l.length -k)).map Ce.i) k [.i (aE f.ak y)]=(cO f (l.take (k+1))++dm (l.length -(k+1))).map Ce.i:=by
   have B:dm (l.length -k)=0::dm (l.length -(k+1)):=by
    have:l.length -k=(l.length -(k+1))+1:=V;rw[this];rfl
   rw[B,fA,lP _ _ _ _ (by simp[g])];simp only[eu,g,QA,cN,jm,iH];rw[aU h];simp[cO]
  rw[u]at this;exact this
 .have g:k=l.length:=V
  subst g
  rw[fB,QA]at c
  simp only[dm,No,eg]at c
  refine⟨_,rfl,⟨by simp[cO],Or.inr ⟨a.size,l.length,[],rfl,ad _,by rw[eg];exact c,by simp[cO],ad _⟩⟩,b⟩
abbrev IB(d p:O)(c:Int)(s:St)(aT b a:O):List Ce:=[.s d,.s p,.i c,.i s.cx,.i s.value,.i s.bz,.i s.dX,.s aT,.s b,.s a]
def DU(g:E)(i:Nat->Nat)(m:E)(h:Nat)(f p:O)(e:Int)(s:St)(c:E):Prop:=
 ∃d aT b a,vJ g d c h bU (IB f p e s aT b a) aT b a s.aT s.heap s.an/\To i m d c
def DU.from{b:E}{g h:Nat->Nat}{m e a:E}{f:Nat}{d p:O}{c:Int}{s:St}(j:DU b h e f d p c s a)(o:To g m h e):DU b g m f d p c s a:=
 let⟨q,aT,n,i,k,l⟩:=j
 ⟨q,aT,n,i,k,o.trans l⟩
section
variable{p:E}{c s:Nat->Nat}{m d:E}{q e:Nat}{g:List Ce}{aT j a:O}{n:List Int}{k:List bN}{b:List aX}{f:aX}{r o h:O}{i:List (List Ce)}
def ST.ZS(S:ST p c m q e g aT j a n k b f r o h i)(l:dq (λ_=>False) c m s d):ST p s d q e g aT j a n k b f r o h i/\To c m s d:=by
 let⟨L,t⟩:=S.cV.gC (l.mono λ_=>False.elim) (S.cV.heap.eJ l id id);exact⟨⟨L,S.fV.eJ l λ_ _=>id⟩,t⟩
def ST.fp(S:ST p c m q e g aT j a n k b f r o h i)(d:f.ak.length<=1000000/\f.aR.length<=1000000/\f.aZ.length<=1000000):FP m a.D (a.off+b.length*6) f r o h:=by
 obtain⟨_,_,_,l,s,t⟩:=S.fV.iJ;exact⟨l,s,t,S.Aq d.1,S.Jz d.2.1,S.Q4 d.2.2⟩
def rB(S:ST p c m q e g aT j a n k b f r o h i){s:Int}(l:0<=s)(u:s<f.ak.length)(v:s<f.aR.length)(w aR:Int):
 aN cp 103 [vp a.D (a.off+b.length*6),vi s,vi w,vi aR] m λ_ d=>ST p c d q e g aT j a n k b (f.put s w aR) r o h i/\To c m c d:=by
 apply zX (a.D,a.off+b.length*6)
 obtain⟨_,_,_,y,z,A⟩:=S.fV.iJ
 have C:r.len=f.ak.length:=by have:=S.fV.ak.len;simp at this;omega
 have B:o.len=f.aR.length:=by have:=S.fV.aR.len;simp at this;omega
 let⟨t,t1⟩:=S.Ax l u w
 let⟨x,t2⟩:=t.pX l (by simpa using v) aR
 exact⟨r,y,o,z,l,V,S.fV.ak.Ob l u,l,V,t.fV.aR.Ob l v,x,t1.trans t2⟩
end
section
variable{n:E}{g:Nat->Nat}{a:E}{k:Nat}{d p aT b e:O}{c:Int}{s:St}{j:List aX}{f:aX}{u t h:O}{q:List (List Ce)}
def ST.OK{d:Nat}{c:List Ce}{l:List Int}{i:List bN}(S:ST n g a k d c aT b e l i j f u t h q):
 ST n (oG g a.size 5) (ah (a.push (.cells (bu [.s O.nil]) eE)) a.size 0 [.s b]) k d c aT b e l i j f u t h q/\To g a (oG g a.size 5) (ah (a.push (.cells (bu [.s O.nil]) eE)) a.size 0 [.s b])/\
  cJ (ah (a.push (.cells (bu [.s O.nil]) eE)) a.size 0 [.s b]) a.size eE [.s b]:=by
 have v:J a (ah (a.push (.cells (bu [.s O.nil]) eE)) a.size 0 [.s b]):=((J.az a).aK _).ah (ad _) _ _
 have s:dq (λ_=>False) g a (oG g a.size 5) (ah (a.push (.cells (bu [.s O.nil]) eE)) a.size 0 [.s b]):=dq.oG v S.cV.new (ad _) (by rw[aw];simp) 5
 let⟨p,t1⟩:=S.ZS s
 exact⟨p,t1,cJ.ah (m:=a.push (.cells (bu [.s O.nil]) eE)) (o:=0) (r:=[.s b]) (cJ.push a _ _)⟩
def DA(S:ST n g a k bU (IB d p c s aT b e) aT b e s.aT s.heap j f u t h q)(r:Int){z:O}(E:ap a z l)(M:l.length<=1000000)(D:s.heap.length<=1000000000):
 aN cp 105 [vp k 0,vi r,O.v z] a λL x=>L=vi (1000+dH s.heap)/\∃y w,ST n y x k bU (IB d p c s aT w e) aT w e s.aT (js s.heap (dH s.heap) ⟨1,r,l⟩) j f u t h q/\To g a y x:=by
 apply vg (k,0)
 simp -zeta only[aC,aB]
 refine⟨b,S.cV.box.cg 8,?_⟩
 intro N H
 let⟨m,t2,kb⟩:=S.OK
 have F:J a H:=((J.az a).aK _).ah (ad _) _ _
 refine(Ef m.cV.heap m.cV.new kb (fJ _ _ _) r (E.ext F) D V m.cV.cz.size).mono ?_
 rintro _ P ⟨I,o,rfl,C,G,B⟩
 let⟨v,t3⟩:=m.gC B C
 refine⟨_,rfl,o,G.cg 0,v.cV.mJ (i:=8) aL,?_⟩
 intro Q
 let⟨A,K⟩:=v.jE 8 [.s o]
 exact⟨rfl,I,o,A,(t2.trans t3).trans K⟩
def Ga(S:ST n g a k bU (IB d p c s aT b e) aT b e s.aT s.heap j f u t h q){x:Instr}{W aw:O}(ha:ap n W x.args)(ah:∀y∈x.args,0<=y/\y<f.ak.length)(aD:x.args.length<=4)
 (aH:f.ak.length=f.aR.length/\f.aZ.length=f.aR.length/\f.aR.length<=2000)(aG:0<=x.bZ/\x.bZ<=f.aZ.length)(ak:s.heap.length<=1000000000)(am:∀w∈f.aZ,w≠0->1000<=w/\ix w<s.heap.length):
 aN cp 104 [vp k 0,vp e.D (e.off+j.length*6),xv x W aw] a λaz m'=>∃(H:Nat->Nat)(E:O)(m:Nat)(i:aX),az=vi (1000+m)/\ST n H m' k bU (IB d p c s aT E e) aT E e s.aT (js s.heap m ⟨1,x.bQ,cO f x.args⟩) j i u t h q/\To g a H m'/\
  i.ak=f.ak/\i.aR=f.aR/\i.pc=f.pc/\(∀y,nJ s j {f with pc:=y} x x.bQ={s with heap:=js s.heap m ⟨1,x.bQ,cO f x.args⟩,an:=j++[aX.put {i with pc:=y+1} x.dst (1000+m) 1]}):=by
 apply rY (k,0) (e.D,e.off+j.length*6)
 simp -zeta only[aC,aB]
 intro G
 have au:J a G:=(J.az a).aK _
 have s1:G.size=a.size+1:=by simp[G]
 let⟨z,t1⟩:=S.ext au
 have T:zA g G [a.size]:=λaA hb=>by simp at hb;subst hb;exact⟨V,S.cV.new _ (ad _)⟩
 clear_value G
 have U:=z.fp ⟨V,V,V⟩
 have aF:h.len=f.aZ.length:=by have:=S.fV.aZ.len;simp at this;omega
 refine(vk U.g3 U.ak (ha.ext z.cV.cz) ah V).mono ?_
 rintro _ P ⟨C,rfl,R,Z⟩
 let⟨r,t2⟩:=z.ext Z
 have K:=T.to t2
 have aJ:(cO f x.args).length=x.args.length:=by simp[cO]
 have F:ap P C (cO f x.args):=ap.gB R V
 have af:=t1.trans t2
 have none:¬(x.bZ≠0/\aE f.aZ (x.bZ -1)≠0)->aN cp 105 [vp k 0,vi x.bQ,O.v C] P λax N=>eH [a.size] P N/\∃ac:Int,ax=vi ac/\∃(H:Nat->Nat)(E:O)(m:Nat)(i:aX),vi ac=vi (1000+m)/\ST n H N k bU (IB d p c s aT E e) aT E e s.aT (js s.heap m ⟨1,x.bQ,cO f x.args⟩) j i u t h q/\To g a H N/\
  i.ak=f.ak/\i.aR=f.aR/\i.pc=f.pc/\(∀y,nJ s j {f with pc:=y} x x.bQ={s with heap:=js s.heap m ⟨1,x.bQ,cO f x.args⟩,an:=j++[aX.put {i with pc:=y+1} x.dst (1000+m) 1]}):=λaq=>by
  refine(DA r x.bQ F V ak).mono ?_
  rintro _ Q ⟨rfl,ay,ar,v,t3⟩
  exact⟨t3.dK K,_,rfl,ay,ar,dH s.heap,f,rfl,v,af.trans t3,rfl,rfl,rfl,λy=>by rw[nJ,ae aq];rfl⟩
 refine⟨t2.dK T,C,rfl,λD=>none λL=>by simp at D;exact L.1 D,λD=>?_⟩
 simp at D
 have e1:cT (x.bZ -1)=x.bZ -1:=aP V V
 have l:0<=x.bZ -1/\x.bZ -1<f.aZ.length:=V
 have I:=r.fp ⟨V,V,V⟩
 have X:=I.aZ.pJ l.1 l.2
 refine⟨h,I.g5,?_⟩
 rw[e1]
 refine⟨V,V,_,X,λB=>none λL=>by simp at B;exact L.2 B,λB=>?_⟩
 simp at B
 let⟨aa,ab⟩:=am _ (fm l.1 l.2) B
 have aI:=r.cV.heap.len
 refine⟨h,I.g5,V,V,_,X,h,I.g5,V,V,r.fV.aZ.Ob l.1 l.2,?_⟩
 intro Q
 let⟨v,t3⟩:=r.xu l.1 l.2 0
 have B3:=K.to t3
 have al:ix (aE f.aZ (x.bZ -1))=(aE f.aZ (x.bZ -1) -1000).toNat:=rfl
 have e2:cT (aE f.aZ (x.bZ -1) -1000)=aE f.aZ (x.bZ -1) -1000:=aP V V
 refine⟨t3.dK K,b,v.cV.box.cg 8,?_⟩
 rw[e2,<-al]
 refine⟨V,V,v.cV.heap.wr (o:=0) ab bh,?_⟩
 intro m4
 have M:cO f x.args≠[]->g C.D=0:=λw=>by
  rcases R.D with A|A
  .subst A;have:=F.len;simp at this;exact absurd (List.length_eq_zero_iff.1 this.symm) w
  .exact S.cV.new _ V
 have av:ap Q C (cO f x.args):=iX F λw=>t3.eC _ (iO F w) (by rw[M w];simp)
 have aj:h.cap≠0:=λA=>by have:=(r.fV.aZ.Dx A).1;simp at this;rw[this]at l;simp at l;omega
 have ag:Rt n.size g Q b s.heap C (cO f x.args):=Rt.of z.cV.heap (λY=>(bd _ _ _ _ λA=>by have q1:=(r.fV.aZ.D aj).2;have q2:=(r.cV.heap.D Y).1;rw[A,q1]at q2;omega).trans (Z.same _ (z.cV.heap.D Y).2)) (λw=>R.congr (t3.eC _ (iO F w) (by rw[M w];simp))) M z.cV.cz.size
 let⟨ai,c4⟩:=v.cV.heap.setCell v.cV.new ab 1 x.bQ av ag
 let⟨S4,t4⟩:=v.gC (c4.mono λaK Y=>Or.inl Y) ai
 have Y:js s.heap (ix (aE f.aZ (x.bZ -1))) ⟨1,x.bQ,cO f x.args⟩=s.heap.set (ix (aE f.aZ (x.bZ -1))) ⟨1,x.bQ,cO f x.args⟩:=by rw[js,ae V]
 refine⟨t4.dK B3,g,b,ix (aE f.aZ (x.bZ -1)),{f with aZ:=gJ f.aZ (x.bZ -1) 0},by rw[iu aa],by rw[Y];exact S4,(af.trans t3).trans t4,rfl,rfl,rfl,λy=>?_⟩
 rw[nJ,ao ⟨D,B⟩,Y,iu aa];rfl
end
end
section
variable{w:Int}
def Lm:∀(b:List Int)(g:List bN),(∀v∈b,fW g v)->∀x,fW g x->fW (jt g b) x
 |[],g,_,x,c=>c
 |v::b,g,d,x,c=>by
  have e:=d v bg;have up:∀y,fW g y->fW (mO g v) y:=λy a=>⟨a.1,(fQ.mO e _).2 a.2⟩;exact Lm b (mO g v) (λy a=>up y (d y (ai _ a))) x (up x c)
def SE{h:List bN}(c:fW h w)(d:(aM h w).aQ≠1){x:Int}(a:fW h x):fW (ft h w) x:=by
 let⟨b,f⟩:=bS c;refine⟨a.1,?_⟩;by_cases e:ix x=ix w
 .rw[e];unfold ft;rw[fQ.yO b];simp only[];omega
 .exact(fQ.ne e).2 a.2
section
variable{t:E}{e:Nat->Nat}{m:E}{j:Nat}{d p aT b g:O}{c:Int}{s:St}{q:List aX}{a:aX}{r v h:O}{u:List (List Ce)}
open Classical in
noncomputable def rV (g:List bN) (w:Int) (eC:Bool):List bN:=
 if(aM g w).aQ=1/\eC=true then g.set (ix w) ⟨-1,0,dm (aM g w).aF.length⟩else apart g w
def DB(S:ST t e m j bU (IB d p c s aT b g) aT b g s.aT s.heap q a r v h u)(ab:fW s.heap w)(eC:Bool){az:Nat->Int}(N:fO s.heap az)(aZ:s.heap.length<=1000000000):
 aN cp 113 [vp j 0,vi w,vb eC] m λk A=>∃G:Bool,k=vb G/\(G=true<->(aM s.heap w).aQ=1/\eC=true)/\∃ax ar,ST t ax A j bU (IB d p c s aT ar g) aT ar g s.aT (rV s.heap w eC) q a r v h u/\To e m ax A:=by
 apply vh (j,0)
 simp -zeta only[aC,aB]
 let⟨C,a7⟩:=bS ab
 have K:=av C
 have a2:=S.cV.heap.len
 have a1:=ab.1
 have aJ:ix w=(w -1000).toNat:=rfl
 have e4:cT (w -1000)=w -1000:=aP V V
 have ag:=N.cell _ (aq C)
 have a4:=ag.hi
 have aX:=ag.fl
 have g8:af m j 8=some (O.v b):=S.cV.box.cg 8
 let⟨f0,Y,g1,g2,gf,gr⟩:=S.cV.heap.cg C
 have aY:=gf.len
 rw[e4,<-aJ]
 refine⟨b,g8,V,V,λA=>A=m/\¬((aM s.heap w).aQ=1/\eC=true),⟨_,Y,λy=>⟨λz=>?_,λz=>⟨rfl,λx=>by rw[z]at x;simp at x⟩⟩,λy=>⟨rfl,λx=>by simp at y;exact y x.1⟩⟩,?_⟩
 .simp at y
  have W:Int.toNat (f0.len:Int)=(aM s.heap w).aF.length:=V
  refine⟨f0,g2,V,dx _,V,V,?_⟩
  rw[W]
  intro B
  have I:J m B:=(J.az m).aK _
  have L:ic m B aA 1 (.mk m.size 0 (aM s.heap w).aF.length (aM s.heap w).aF.length) ((dm (aM s.heap w).aF.length).map Ce.i):=by
   have X:B=m.push (.cells (bu ((dm (aM s.heap w).aF.length).map Ce.i)) aA):=by rw[<-ua]
   rw[X];exact Oc _
  let⟨D,t1⟩:=S.ext I
  clear_value B
  refine⟨D.cV.heap.wr (o:=0) K bh,?_⟩
  intro m2
  let⟨F,E⟩:=D.cV.heap.setCell D.cV.new K (-1) 0 (ap.gB L (by rw[kG];omega)) (Rt.of S.cV.heap (λx=>I.same _ (S.cV.heap.D x).2) (λ_=>L) (λ_=>S.cV.new _ (ad _)) S.cV.cz.size)
  let⟨H,t2⟩:=D.gC (E.mono λx z=>Or.inl z) F
  refine⟨true,rfl,by simp[y,z],e,b,?_,t1.trans t2⟩
  rw[rV,ao ⟨y,z⟩];exact H
 .rintro B ⟨rfl,an⟩
  have ak:(false=true<->(aM s.heap w).aQ=1/\eC=true):=⟨sx,λh=>absurd h an⟩
  rw[show rV s.heap w eC=apart s.heap w by rw[rV,ae an]]
  refine⟨_,Y,λy=>?_,λy=>?_⟩
  .simp at y
   refine⟨S.cV.heap.wr (o:=0) K bh,?_⟩
   intro m2
   let⟨F,E⟩:=S.cV.heap.setCell S.cV.new K 0 0 (f:=.nil) (l:=[]) ⟨rfl,aL,aL,aL⟩ (λT=>absurd rfl T)
   let⟨H,t2⟩:=S.gC (E.mono λx z=>Or.inl z) F
   refine⟨b,H.cV.box.cg 8,?_⟩
   intro m3 m4
   let⟨D,Q,kb⟩:=H.OK
   refine(uH D.cV.heap D.cV.new kb (fJ _ _ _) bF).mono ?_
   rintro _ Z ⟨aa,P,M⟩
   let⟨I,R⟩:=D.gC M aa
   refine⟨_,P.cg 0,I.cV.mJ (i:=8) aL,?_⟩
   intro m6
   let⟨L,U⟩:=I.jE 8 [.s (b.cut 0 (jw (s.heap.set (ix w) ⟨0,0,[]⟩) (s.heap.set (ix w) ⟨0,0,[]⟩).length) 3)]
   refine⟨false,rfl,ak,_,b.cut 0 (jw (s.heap.set (ix w) ⟨0,0,[]⟩) (s.heap.set (ix w) ⟨0,0,[]⟩).length) 3,?_,((t2.trans Q).trans R).trans U⟩
   rw[apart,ao y];exact L
  .simp only[aj]at y
   have W:cT ((aM s.heap w).aQ -1)=(aM s.heap w).aQ -1:=aP V V
   refine⟨_,Y,S.cV.heap.wr (o:=0) K bh,?_⟩
   rw[W]
   intro m2
   let⟨F,E⟩:=S.cV.heap.rG S.cV.new C ((aM s.heap w).aQ -1)
   let⟨f1,k0,k1,k2,kf,kr⟩:=F.cg (eK C)
   simp only[]at kf kr
   have a0:=kf.len
   refine⟨f1,k2,?_⟩
   have ai:∀{A},dq (λx=>x=3) e B e A->af A j 8=some (O.v b):=λhc=>by rw[aH (hc.eC _ S.cV.box.lt (by rw[S.cV.QC];decide))];exact g8
   have am:∀k∈(aM s.heap w).aF,1000<=k->fW (ft s.heap w) k:=λk D b=>SE ab y (N.field (aq C) D b)
   have aI:∀U∈ft s.heap w,-10<=U.aQ/\U.aQ<=999999:=λU hq=>by
    rcases nX hq with rfl|⟨G,_,P⟩
    .simp only[];omega
    .have:=N.cell U (aq P);have h5:=this.lo;have h6:=this.hi;omega
   have aV:dq (λx=>x=3) e B e m2:=E
   refine dW (n:=(aM s.heap w).aF.length) V (λx A=>dN t.size e A b (jt (ft s.heap w) (ln ((aM s.heap w).aF.take x)))/\dq (λx=>x=3) e B e A/\ap A f1 (aM s.heap w).aF) ⟨F,E,kf⟩ ?_
   rintro x m3 aS μ z ⟨R,H,au⟩ aw
   refine dit (λh5=>?_) λh5=>?_
   .let⟨k,D⟩:=cK ((aM s.heap w).aF) x
    have aR:k<=9223372036854775807:=by
     rcases dT (1000<=k)with h6|h6
     .have:=av (bS (N.field (aq C) (aq D) h6)).1;unfold ix at this;omega
     .omega
    have aQ:(jt (ft s.heap w) (ln ((aM s.heap w).aF.take x))).length=s.heap.length:=by rw[wj];simp[ft]
    have aK:1000<=k->fW (jt (ft s.heap w) (ln ((aM s.heap w).aF.take x))) k:=λb=>Lm _ _ (λL I=>am L (dC (lO.1 I).1) (lO.1 I).2) k (am k (aq D) b)
    refine⟨V,V,k,by simpa using au.aE D,b,ai H,(iB (R.cells (by rw[aQ];omega)) aR).mono ?_⟩
    rintro _ m4 ⟨ay,G,rfl,P,aF,Z⟩
    have L:dq (λx=>x=3) e B e m4:=H.trans (dq.eI _ Z H.new)
    have I:=R.eJ (dq.eI (λ_=>False) Z H.new) id id
    have ac:=au.ext Z
    refine⟨ay,G,rfl,λah=>?_,λaG=>aw V _ ⟨?_,L,ac⟩⟩
    .have al:=P.1 ah
     have aE:=aF ah
     subst aE
     let⟨Q,a5⟩:=bS al
     have aO:=av Q
     have a3:=I.len
     obtain⟨f4,j0,_⟩:=I.cg Q
     have aW:=Ao _ _ 999999 aI _ (aq Q)
     have a6:=od ((aM s.heap w).aF.take x)
     have a8:((aM s.heap w).aF.take x).length<=3:=bF
     have X:cT ((aM (jt (ft s.heap w) (ln ((aM s.heap w).aF.take x))) k).aQ+1)=(aM (jt (ft s.heap w) (ln ((aM s.heap w).aF.take x))) k).aQ+1:=aP V V
     have aD:Int.toNat ((ix k:Nat):Int)=ix k:=V
     refine⟨b,ai L,?_⟩
     rw[aD]
     refine⟨V,V,_,j0,V,V,I.wr (o:=0) aO bh,?_⟩
     rw[X]
     let⟨aa,M⟩:=I.rG L.new Q ((aM (jt (ft s.heap w) (ln ((aM s.heap w).aF.take x))) k).aQ+1)
     refine aw V _ ⟨?_,L.trans M,iX ac λT=>M.eC _ (iO ac T) (by rw[(kr T).1];decide)⟩
     have:ln [k]=[k]:=by simp[ln,al.1]
     rw[aU D,pp,this,Ep]
     exact aa
    .have M:¬1000<=k:=λb=>fb P aG (aK b)
     have:ln [k]=[]:=by simp[ln];omega
     rw[aU D,pp,this,eg];exact I
   .rw[bY V]at R
    let⟨I,t3⟩:=S.gC (H.mono λx z=>Or.inl z) R
    refine⟨false,rfl,ak,e,b,?_,t3⟩
    rw[apart,ae y];exact I
def JO(Y:ST t e m j bU (IB d p c s aT b g) aT b g s.aT s.heap q a r v h u){f:Instr}{aa al:O}(ha:ap t aa f.args)(aj:∀z∈f.args,0<=z/\z<a.ak.length)(aq:f.args.length<=4)(av:f.op=0\/f.op=1\/f.op=2\/f.op=3\/f.op=4\/f.op=5)(h5:f.op=5->f.args.length=1)(h2:f.op≠0->f.op≠5->f.args.length=2)(ac:f.op≠0->∀z∈f.args,gR (aE a.ak z))
 (ar:a.ak.length=a.aR.length/\a.aZ.length=a.aR.length/\a.aR.length<=2000)(hd:0<=f.dst/\f.dst<a.aR.length)(aw:s.aT.length<=1000000000):
 aN cp 102 [vp j 0,vp g.D (g.off+q.length*6),xv f aa al] m λ_ w=>DU t e m j d p c (if f.op=0 then{s with an:=q++[a.put f.dst f.bQ 0]}else if f.op=5 then{s with aT:=s.aT++[aE a.ak (aE f.args 0)],an:=q++[a.put f.dst (aE a.ak (aE f.args 0)) 0]}else{s with an:=q++[a.put f.dst (OU f.op (aE a.ak (aE f.args 0)) (aE a.ak (aE f.args 1))) 0]}) w:=by
 apply tx (j,0) (g.D,g.off+q.length*6)
 simp -zeta only[aC,aB]
 intro y
 have ak:J m y:=(J.az m).aK _
 have s1:y.size=m.size+1:=by simp[y]
 let⟨K,t1⟩:=Y.ext ak
 have T:zA e y [m.size]:=λab C=>by simp at C;subst C;exact⟨V,Y.cV.new _ (ad _)⟩
 clear_value y
 have X:=K.fp ⟨V,V,V⟩
 refine(vk X.g3 X.ak (ha.ext K.cV.cz) aj V).mono ?_
 rintro _ l ⟨ws,rfl,ow,ai⟩
 let⟨A,t2⟩:=K.ext ai
 have I:=T.to t2
 have ax:(cO a f.args).length=f.args.length:=by simp[cO]
 have D:ap l ws (cO a f.args):=ap.gB ow V
 have ay:=D.len
 have ah:=t1.trans t2
 have S:∀{F:Nat},F<f.args.length->(cO a f.args)[F]? =some (aE a.ak (aE f.args F)):=λ{F} hk=>by
  let⟨z,hy⟩:=dD hk;simp[cO,hy,VE hy]
 have ag:∀{M:E}(hx:J l M)(H:Int),aN cp 103 [vp g.D (g.off+q.length*6),vi f.dst,vi H,vi 0] M λ_ w=>eH [m.size] M w/\DU t e m j d p c {s with an:=q++[a.put f.dst H 0]} w:=λhx H=>by
  let⟨SM,tM⟩:=A.ext hx;refine(rB SM hd.1 V hd.2 H 0).mono ?_;rintro _ w ⟨S',t'⟩;exact⟨t'.dK (I.to tM),e,aT,b,g,S'.cV,(ah.trans tM).trans t'⟩
 refine⟨t2.dK T,ws,rfl,λo=>?_,λn=>⟨λo=>?_,λN=>?_⟩⟩
 .simp at o;rw[ao o];exact ag (J.az _) _
 .simp at n o
  rw[ae n,ao o]
  have h1:=h5 o
  have au:(O.len aT)=s.aT.length:=by have:=A.cV.aT.len;simp at this;omega
  refine⟨V,V,_,D.aE (k:=0) (S V),aT,A.cV.box.cg 7,?_⟩
  intro G
  have B:J l G:=(J.az l).aK _
  have jC:fR G l.size 0 [.i (aE a.ak (aE f.args ((0:Nat):Int)))]:=(cJ.push l _ _).iJ
  let⟨L,t3⟩:=A.ext B
  have U:=I.to t3
  clear_value G
  refine iP.append (zs:=[.i 0]) (x:=.mk l.size 0 1 1) (c:=[.i (aE a.ak (aE f.args 0))]) L.cV.aT L.cV.new rfl jC (by simp only[O.gK];omega) λaf P m4 q1 q2=>?_
  have am:iP af m4 aA 1 2 P ((s.aT++[aE a.ak (aE f.args 0)]).map Ce.i):=by simpa using q1
  let⟨Z,Q⟩:=L.Io q2 am
  have W:=U.to Q
  refine⟨Q.dK U,Z.cV.mJ (i:=7) aL,?_⟩
  intro m5
  let⟨S5,R⟩:=Z.jE 7 [.s P]
  refine⟨R.dK W,(rB S5 hd.1 V hd.2 (aE a.ak (aE f.args 0)) 0).mono ?_⟩
  rintro _ m6 ⟨S6,t6⟩
  exact⟨t6.dK (W.to R),af,P,b,g,S6.cV,(((ah.trans t3).trans Q).trans R).trans t6⟩
 .simp at n N
  rw[ae n,ae N]
  have h1:=h2 n N
  refine⟨V,V,_,D.aE (k:=0) (S V),V,V,_,D.aE (k:=1) (S V),?_⟩
  refine(OL (ac n _ (fm V V)) (ac n _ (fm V V)) l).mono ?_
  rintro _ G ⟨rfl,B⟩
  exact⟨B.dy (λab C=>(I ab C).1),_,rfl,ag B _⟩
end
end
section
variable{b1 b2 b3 b k:Nat}{j:cU}{g:Int}{q:dA}{a:E}{e:List Int}
section
variable{y:E}{v:Nat->Nat}{u:E}{x:Nat}{d p aT z t:O}{c:Int}{s:St}{l:List aX}{f:aX}{r o h:O}{A:List (List Ce)}
def OM(S:ST y v u x bU (IB d p c s aT z t) aT z t s.aT s.heap l f r o h A){b:Instr}{m aD:O}(P:ap y m b.args)(ag:∀e∈b.args,0<=e/\e<f.ak.length)(au:1<=b.args.length/\b.args.length<=4)
 (aK:f.ak.length=f.aR.length/\f.aZ.length=f.aR.length/\f.aR.length<=2000)(ay:s.heap.length<=1000000000)(aj:∀q∈f.aR,0<=q/\q<=999999)
 (az:fW s.heap (aE f.ak (aE b.args 0))){am:Nat->Int}(hI:fO s.heap am){R:Int}(ak:f.pc=R+1):
 aN cp 108 [vp x 0,vp t.D (t.off+l.length*6),xv b m aD] u λ_ a=>DU y v u x d p c (tB s l {f with pc:=R} b) a:=by
 apply vX (x,0) (t.D,t.off+l.length*6)
 simp -zeta only[aC,aB]
 intro L
 have aA:J u L:=(J.az u).aK _
 have s1:L.size=u.size+1:=by simp[L]
 let⟨N,t1⟩:=S.ext aA
 have B1:zA v L [u.size]:=λac G=>by simp at G;subst G;exact⟨V,S.cV.new _ (ad _)⟩
 clear_value L
 have aQ:r.len=f.ak.length:=by have:=S.fV.ak.len;simp at this;omega
 have aO:o.len=f.aR.length:=by have:=S.fV.aR.len;simp at this;omega
 have aJ:h.len=f.aZ.length:=by have:=S.fV.aZ.len;simp at this;omega
 have aG:=P.len
 have aF:=P.cap
 have F:0<=aE b.args 0/\aE b.args 0<f.ak.length:=ag _ (fm V V)
 have ga:∀{a},J y a->af a m.D (m.off+Int.toNat (0:Int)*1)=some (vi (aE b.args 0)):=λhx=>(P.ext hx).pJ V V
 obtain⟨_,_,_,g3,_,_⟩:=N.fV.iJ
 generalize hw:aE f.ak (aE b.args 0)=w at*
 refine⟨r,g3,V,V,_,ga N.cV.cz,F.1,V,w,by rw[<-hw];exact(N.Aq V).pJ F.1 F.2,(DB N az (b.op==17) hI ay).mono ?_⟩
 rintro _ m2 ⟨ac,rfl,G,C,H,K,t2⟩
 have T:=B1.to t2
 have ar:(b.op==17)=true<->b.op=17:=aL
 rw[ar]at G
 have e1:Int.toNat (1:Int)=1:=rfl
 have e2:Int.toNat (m.len:Int)=m.len:=V
 have Z:∀{a},J y a->ap a (O.cut m 1 m.len 1) (b.args.drop 1):=λhx=>U8 (P.ext hx) au.1
 have aH:(O.cut m 1 m.len 1).len=b.args.length -1:=by have:=(Z (J.az y)).len;simp at this;omega
 have aI:(b.args.drop 1).length=b.args.length -1:=aL
 have ah:∀e∈b.args.drop 1,0<=e/\e<f.ak.length:=λe B=>ag e (wS B)
 rw[e1,e2]
 refine⟨t2.dK B1,ac,rfl,λax=>?_,λaw=>?_⟩
 .obtain⟨_,_,_,_,_,g5⟩:=K.fV.iJ
  have Q:=G.1 ax
  refine⟨h,g5,V,V,_,ga K.cV.cz,F.1,V,K.fV.aZ.Ob F.1 V,?_⟩
  intro m3
  let⟨S3,t3⟩:=K.xu F.1 V w
  refine⟨t3.dK T,V,V,V,?_⟩
  refine dW (n:=(b.args.drop 1).length) V (λk a=>ST y C a x bU (IB d p c s aT H t) aT H t s.aT (rV s.heap w (b.op==17)) l {f with aZ:=gJ f.aZ (aE b.args 0) w,aR:=dG f.aR ((b.args.drop 1).take k)} r o h A/\To v u C a/\zA C a [u.size]) ⟨by rw[List.take_zero];exact S3,(t1.trans t2).trans t3,(T.to t3)⟩ ?_
  rintro k m4 al μ hk ⟨g,M,I⟩ ab
  have aa:∀q∈dG f.aR ((b.args.drop 1).take k),0<=q/\q<=1000010:=λq hq=>by
   have:=qU _ f.aR 999999 V aj q hq;have h3:((b.args.drop 1).take k).length<=4:=bF;omega
  refine dit (λY=>?_) λY=>?_
  .let⟨e,B⟩:=cK (b.args.drop 1) k
   have j:=ah e (aq B)
   have D:e<(dG f.aR ((b.args.drop 1).take k)).length:=by rw[lZ];omega
   have av:=FD (i:=e) aa V
   have W:cT (aE (dG f.aR ((b.args.drop 1).take k)) e+1)=aE (dG f.aR ((b.args.drop 1).take k)) e+1:=aP V V
   obtain⟨_,_,_,_,X,_⟩:=g.fV.iJ
   refine⟨V,V,e,by simpa using(Z g.cV.cz).aE B,o,X,j.1,V,_,(g.Jz (by simp only[lZ];omega)).pJ j.1 D,j.1,V,g.fV.aR.Ob j.1 D,?_⟩
   rw[W]
   intro m5
   let⟨U,E⟩:=g.pX j.1 D (aE (dG f.aR ((b.args.drop 1).take k)) e+1)
   refine⟨E.dK I,ab V _ ⟨?_,M.trans E,I.to E⟩⟩
   rw[aU B,sJ];exact U
  .rw[bY V]at g
   refine⟨C,aT,H,t,?_,M⟩
   have:tB s l {f with pc:=R} b={s with heap:=rV s.heap w (b.op==17),an:=l++[{f with aZ:=gJ f.aZ (aE b.args 0) w,aR:=dG f.aR (b.args.drop 1)}]}:=by
    unfold tB;simp only[];rw[hw,ao Q,rV,ao (by simpa using Q),ak]
   rw[this];exact g.cV
 .have ai:¬((aM s.heap w).aQ=1/\b.op=17):=λQ=>by have:=G.2 Q;rw[aw]at this;simp at this
  refine⟨V,V,V,?_⟩
  refine dW (n:=(b.args.drop 1).length) V (λk a=>ST y C a x bU (IB d p c s aT H t) aT H t s.aT (rV s.heap w (b.op==17)) l {f with aR:=dG f.aR ((b.args.drop 1).take k)} r o h A/\To v u C a/\zA C a [u.size]) ⟨by simpa[dG]using K,t1.trans t2,T⟩ ?_
  rintro k m4 al μ hk ⟨g,M,I⟩ ab
  have aa:∀q∈dG f.aR ((b.args.drop 1).take k),0<=q/\q<=1000010:=λq hq=>by
   have:=qU _ f.aR 999999 V aj q hq;have h3:((b.args.drop 1).take k).length<=4:=bF;omega
  refine dit (λY=>?_) λY=>?_
  .let⟨e,B⟩:=cK (b.args.drop 1) k
   have j:=ah e (aq B)
   have D:e<(dG f.aR ((b.args.drop 1).take k)).length:=by rw[lZ];omega
   have av:=FD (i:=e) aa V
   have W:cT (aE (dG f.aR ((b.args.drop 1).take k)) e+1)=aE (dG f.aR ((b.args.drop 1).take k)) e+1:=aP V V
   obtain⟨_,_,_,_,X,_⟩:=g.fV.iJ
   refine⟨V,V,e,by simpa using(Z g.cV.cz).aE B,o,X,j.1,V,_,(g.Jz (by simp only[lZ];omega)).pJ j.1 D,j.1,V,g.fV.aR.Ob j.1 D,?_⟩
   rw[W]
   intro m5
   let⟨U,E⟩:=g.pX j.1 D (aE (dG f.aR ((b.args.drop 1).take k)) e+1)
   refine⟨E.dK I,ab V _ ⟨?_,M.trans E,I.to E⟩⟩
   rw[aU B,sJ];exact U
  .rw[bY V]at g
   refine⟨C,aT,H,t,?_,M⟩
   have:tB s l {f with pc:=R} b={s with heap:=rV s.heap w (b.op==17),an:=l++[{f with aR:=dG f.aR (b.args.drop 1)}]}:=by
    unfold tB;simp only[];rw[hw,ae ai,rV,ae (by simpa using ai),ak]
   rw[this];exact g.cV
def nR.none{v:Nat->Nat}{u:E}:nR v u .nil []:=⟨[],iP.gB (ic.nil u u _ _) (λa=>absurd rfl a),rfl,aL,aL⟩
def HT(S:ST y v u x bU (IB d p c s aT z t) aT z t s.aT s.heap l f r o h A)(ad:l.length<=100000)(w:Int)(U:∀g,l.getLast?=some g->0<=f.dst/\f.dst<g.ak.length/\f.dst<g.aR.length):
 aN cp 114 [vp x 0,vi w] u λ_ a=>DU y v u x d p c (match l.getLast? with|none=>{s with cx:=0,value:=w,an:=[]}|some g=>{s with an:=l.dropLast++[g.put f.dst w (gN w)]}) a:=by
 apply sN (x,0)
 simp -zeta only[aC,aB]
 have G:=S.fV.ye
 have aa:=S.fV.qv.le
 have B:cT ((t.len:Int) -1)=(l.length:Int):=by rw[aP V V];omega
 have L:Int.toNat (l.length:Int)=l.length:=V
 have C:af u x 9=some (O.v t):=S.cV.box.cg 9
 obtain⟨_,_,g2,_,_,_⟩:=S.fV.iJ
 refine⟨t,C,t,C,?_⟩
 rw[B,L]
 refine⟨V,V,f.dst,g2,t,C,V,V,V,S.cV.mJ (i:=9) aL,?_⟩
 intro H
 let⟨q,t2⟩:=S.cV.jE 9 [.s (t.cut 0 l.length 6)]
 obtain⟨b,_⟩:=q.jR (dq.az _ q.new) (q.an.Vl)
 have ab:(t.cut 0 l.length 6).len=l.length:=by
  cases t with
  |nil=>simp at G
  |zT j I k=>simp at G
  |mk j I e c=>simp[O.cut]
 have e3:Int.toNat (0:Int)=0:=rfl
 refine⟨λD=>?_,λD=>?_⟩
 .have J:l=[]:=by simpa using D
  subst J
  refine⟨b.mJ (i:=3) (by simp[k8]),?_⟩
  intro X
  let⟨j,t3⟩:=b.jE 3 [.i 0]
  refine⟨j.mJ (i:=4) (by simp[k8]),?_⟩
  intro Y
  let⟨k,E⟩:=j.jE 4 [.i w]
  refine⟨k.mJ (i:=9) (by simp[k8]),?_⟩
  intro K
  let⟨n,M⟩:=k.jE 9 [.s .nil]
  obtain⟨F,_⟩:=n.jR (dq.az _ n.new) (nR.none (v:=v) (u:=K))
  exact⟨v,aT,z,.nil,F,((t2.trans t3).trans E).trans M⟩
 .have n:l≠[]:=by simpa using D
  have ae:l.length≠0:=λB=>n (List.length_eq_zero_iff.1 B)
  obtain⟨g,j⟩:∃g,l.getLast?=some g:=⟨_,gE n⟩
  let⟨P,Q,R⟩:=U g j
  rw[j]
  simp only[]
  have W:l=l.dropLast++[g]:=by
   rw[gE n]at j;simp at j;rw[<-j];exact(fy n).symm
  have k:vJ y v H x bU (IB d p c s aT z (t.cut 0 l.length 6)) aT z (t.cut 0 l.length 6) s.aT s.heap (l.dropLast++[g]):=
   ⟨b.cz,b.jZ,b.new,b.box,b.QC,b.aT,b.heap,by rw[<-W];exact b.an⟩
  let⟨r',I,h',Z,T⟩:=k.an.fV
  have ac:l.dropLast.length=l.length -1:=aL
  have M:cT ((l.length:Int) -1)=((l.length -1:Nat):Int):=by rw[aP V V];omega
  have N:Int.toNat ((l.length -1:Nat):Int)=l.dropLast.length:=V
  refine⟨t.cut 0 l.length 6,k.box.cg 9,?_⟩
  rw[M,N]
  refine⟨V,V,(nk w H).mono ?_⟩
  rintro _ X ⟨rfl,F⟩
  let⟨J,t3⟩:=(ST.mk k T).ext F
  refine⟨_,rfl,F.de (k.box.cg 9),(rB J P Q R w (gN w)).mono ?_⟩
  rintro _ Y ⟨K,E⟩
  exact⟨v,aT,z,_,K.cV,(t2.trans t3).trans E⟩
end
def YJ{m M:E}(j:J m M){nb:Nat}(o:m.size<=nb)(t:nb<M.size)(b:Nat)(i:List Ce)
 (c:(b1=M.size\/b1=M.size+1\/b1=M.size+2)/\(b2=M.size\/b2=M.size+1\/b2=M.size+2)/\(b3=M.size\/b3=M.size+1\/b3=M.size+2)/\b1≠b2/\b1≠b3/\b2≠b3):
 rm m (ah (((M.push (.cells (bu (mS [.i (0:Int)] b)) 3)).push (.cells (bu (mS [.i (0:Int)] b)) 3)).push (.cells (bu (mS [.i (0:Int)] b)) 3)) nb 0 i) b1 b2 b3 b (dm b) (dm b) (dm b):=by
 rw[ua]
 generalize d:M.push (.cells (bu ((dm b).map Ce.i)) 3)=m2
 generalize e:m2.push (.cells (bu ((dm b).map Ce.i)) 3)=m3
 generalize f:m3.push (.cells (bu ((dm b).map Ce.i)) 3)=m4
 have k:m2.size=M.size+1:=by simp[<-d]
 have l:m3.size=M.size+2:=by simp[<-e,k]
 have u:m4.size=M.size+3:=by simp[<-f,l]
 have s:J M m2:=d▸J.push _ _
 have n:J m2 m3:=e▸J.push _ _
 have h:J m3 m4:=f▸J.push _ _
 have p:cJ m4 M.size aA ((dm b).map Ce.i):=((d▸cJ.push M _ _:cJ m2 M.size aA ((dm b).map Ce.i)).ext n).ext h
 have q:cJ m4 m2.size aA ((dm b).map Ce.i):=(e▸cJ.push m2 _ _:cJ m3 m2.size aA ((dm b).map Ce.i)).ext h
 have r:cJ m4 m3.size aA ((dm b).map Ce.i):=f▸cJ.push m3 _ _
 have g:∀a,(a=M.size\/a=M.size+1\/a=M.size+2)->cJ (ah m4 nb 0 i) a aA ((dm b).map Ce.i):=λa c=>by
  have:cJ m4 a aA ((dm b).map Ce.i):=by
   rcases c with rfl|rfl|rfl
   .exact p
   .rw[<-k];exact q
   .rw[<-l];exact r
  exact this.congr (bd _ _ _ _ V)
 exact⟨(j.trans ((s.trans n).trans h)).ah o _ _,by have:=j.size;rw[aw];omega,g _ c.1,g _ c.2.1,g _ c.2.2.1,by simp[kG]⟩
def HW{m:E}{d p:O}(f:fC m d p j)(o:0<=g)(h:j.cE[g.toNat]? =some q)(b:0<=q.ak/\q.ak<=2000)(e:Int):
 aN cp 83 [.agg #[O.v d,O.v p],vi g,vi e] m λv a=>∃b1 b2 b3,v=.agg #[vi g,vi 0,vi e,O.v (.mk b1 0 q.ak.toNat q.ak.toNat),O.v (.mk b2 0 q.ak.toNat q.ak.toNat),O.v (.mk b3 0 q.ak.toNat q.ak.toNat)]/\
  rm m a b1 b2 b3 q.ak.toNat (dm q.ak.toNat) (dm q.ak.toNat) (dm q.ak.toNat):=by
 apply Cw
 simp -zeta only[aC,aB]
 intro k c
 have i:J m c:=((J.az m).aK _).aK _
 have s:k.size=m.size+1:=by simp[k]
 have C:c.size=m.size+2:=by simp[c,s]
 have y:=f.cE.len
 have x:=av h
 clear_value c
 obtain⟨u,z,w,_,_,_,_,_,_,r,_⟩:=(f.ext i).cE.aE h
 refine⟨o,V,q.ak,r,⟨b.1,dx _,V,V,?_⟩,⟨b.1,dx _,V,V,?_⟩,⟨b.1,dx _,V,V,?_⟩⟩
 all_goals
  intro l
  refine⟨⟨b.1,dx _,V,V,?_⟩,⟨b.1,dx _,V,V,?_⟩⟩
  all_goals
   intro n
   refine⟨b.1,dx _,V,V,?_⟩
   intro A B
   have t:l.size=c.size+1:=by simp[l]
   have D:n.size=c.size+2:=by simp[n,t]
   exact⟨_,_,_,rfl,YJ i V V q.ak.toNat _ V⟩
def rm.Ax{d:E}{ak aR aZ:List Int}(N:rm d a b1 b2 b3 b ak aR aZ)(e:k<b)(v:Int):fL a b1 k 1/\rm d (ah a b1 k [.i v]) b1 b2 b3 b (ak.set k v) aR aZ:=by
 have c:=N.lo;refine⟨N.kr.fL (by simp[N.len.1];omega),N.ext.ah c.1 _ _,by rw[aw];exact c,?_,N.ko.congr (bd _ _ _ _ V),N.kh.congr (bd _ _ _ _ V),by simp[N.len]⟩;have:=cJ.ah (m:=a) (o:=k) (r:=[.i v]) N.kr;rw[Aw]at this;exact this
def rm.pX{d:E}{ak aR aZ:List Int}(N:rm d a b1 b2 b3 b ak aR aZ)(e:k<b)(v:Int):fL a b2 k 1/\rm d (ah a b2 k [.i v]) b1 b2 b3 b ak (aR.set k v) aZ:=by
 have c:=N.lo;refine⟨N.ko.fL (by simp[N.len.2.1];omega),N.ext.ah c.2.1 _ _,by rw[aw];exact c,N.kr.congr (bd _ _ _ _ V),?_,N.kh.congr (bd _ _ _ _ V),by simp[N.len]⟩;have:=cJ.ah (m:=a) (o:=k) (r:=[.i v]) N.ko;rw[Aw]at this;exact this
def ym(cW:List Int):∀(e r:List Int)(k:Nat),dO cW k (e++r)=dO cW k e++dO cW (k+e.length) r
 |[],r,k=>by simp[dO]
 |b::e,r,k=>by
  have:=ym cW e r (k+1);simp only[db,dO,this,ba];have a:k+(e.length+1)=k+1+e.length:=V;rw[a]
def Mu{k:Nat}(h:k<b):dm (b -k)=0::dm (b -(k+1)):=by
 have:b -k=(b -(k+1))+1:=V;rw[this];rfl
def VX(h:e.length<b)(v:Int):(e++dm (b -e.length)).set e.length v=(e++[v])++dm (b -(e.length+1)):=by
 rw[Mu h];simp
def Yv(h:e.length<b):e++dm (b -e.length)=(e++[0])++dm (b -(e.length+1)):=by
 rw[Mu h];simp
section
variable{A:E}{t:Nat->Nat}{m:E}{z:Nat}{d p aT y v:O}{c:Int}{s:St}{u:List aX}{w:aX}{r o h:O}{B:List (List Ce)}
def FW(W:ST A t m z bU (IB d p c s aT y v) aT y v s.aT s.heap u w r o h B)(aQ:fC A d p j)(am:0<=g)(Z:j.cE[g.toNat]? =some q)(aS:0<=q.ak/\q.ak<=2000){ws:O}{b:List Int}(hw:ap m ws b)(aV:b≠[]->t ws.D=0)(bb:(b.length:Int)<=q.ak)(U:Instr)(ab aX:O)
 (a6:u.length<=10000)(a4:0<=s.bz/\s.bz<=100000):
 aN cp 112 [vp z 0,vi g,O.v ws,xv U ab aX] m λ_ a=>DU A t m z d p c {s with bz:=s.bz+1,an:=if U.op=24 then u++[bX j g w.dst b]else u++[w,bX j g U.dst b]} a:=by
 apply vW (z,0)
 simp -zeta only[aC,aB]
 intro R
 have aW:J m R:=(J.az m).aK _
 have s1:R.size=m.size+1:=by simp[R]
 let⟨S1,t1⟩:=W.ext aW
 have B1:zA t R [m.size]:=λC D=>by simp at D;subst D;exact⟨V,W.cV.new _ (ad _)⟩
 clear_value R
 have a5:=W.fV.ye
 have a0:=W.fV.qv.le
 have e0:cT (s.bz+1)=s.bz+1:=aP V V
 have aF:cT ((v.len:Int) -1)=(u.length:Int):=by rw[aP V V];omega
 have e2:Int.toNat (u.length:Int)=u.length:=V
 refine⟨s.bz,S1.cV.box.cg 5,S1.cV.mJ (i:=5) aL,?_⟩
 rw[e0]
 intro m2
 let⟨P,t2⟩:=S1.jE 5 [.i (s.bz+1)]
 replace P:ST A t m2 z bU (IB d p c {s with bz:=s.bz+1} aT y v) aT y v s.aT s.heap u w r o h B:=P
 replace t2:To t R t m2:=t2
 have B2:=B1.to t2
 have g9:af m2 z 9=some (O.v v):=P.cV.box.cg 9
 obtain⟨_,_,g2,_,_,_⟩:=P.fV.iJ
 refine⟨t2.dK B1,v,g9,?_⟩
 rw[aF,e2]
 clear_value m2
 have ay:=t1.trans t2
 refine⟨λI a=>∃K X,vJ A t a z bU (IB d p c {s with bz:=s.bz+1} aT y X) aT y X s.aT s.heap K/\To t m t a/\zA t a [m.size]/\K.length<=10001/\(if U.op=24 then u++[bX j g w.dst b]else u++[w,bX j g U.dst b])=K++[bX j g I b],⟨λT=>?_,λT=>?_⟩,?_⟩
 .simp at T
  refine⟨v,g9,V,V,w.dst,g2,v,g9,V,V,V,P.cV.mJ (i:=9) aL,?_⟩
  intro Q
  let⟨G,t3⟩:=P.cV.jE 9 [.s (v.cut 0 u.length 6)]
  obtain⟨k,_⟩:=G.jR (dq.az _ G.new) (G.an.Vl)
  refine⟨t3.dK B2,u,v.cut 0 u.length 6,k,ay.trans t3,B2.to t3,V,?_⟩
  rw[ao T]
 .simp at T
  refine⟨u++[w],v,P.cV,ay,B2,bF,?_⟩
  rw[ae T];simp
 rintro I Q ⟨K,X,G,t3,B3,hX,aI⟩
 rw[aI]
 have ah:dQ j g=q:=by simp[dQ,Z]
 have ag:=aQ.ext G.cz
 refine⟨d,G.box.cg 0,p,G.box.cg 1,(HW ag am Z aS I).mono ?_⟩
 rintro _ L ⟨b1,b2,b3,rfl,aa⟩
 have a7:=aa.lo
 have al:∀C∈[m.size],C<Q.size:=λC D=>(B3 C D).1
 have a9:m.size<Q.size:=al _ aL
 refine⟨aa.ext.dy al,_,_,_,_,_,_,rfl,?_⟩
 intro m5 m6
 have aG:J L m6:=((J.az L).aK _).ah (ad _) _ _
 have s6:m6.size=L.size+1:=by simp[m6,m5,aw]
 have N6:=aa.SA aG
 clear_value m6
 have ba:=hw.len
 have iw:∀{M},J Q M->ap M ws b:=λhx=>(iX hw λk=>t3.eC _ (iO hw k) (by rw[aV k];decide)).ext hx
 obtain⟨pa,pl,pc,_,aO,_,_,k1,_,_,_⟩:=ag.cE.aE Z
 have a8:=av Z
 have a_:=ag.cE.len
 have aq:∀(k:Nat),(q.cW.any λF=>F==(k:Int))=true<->(k:Int)∈q.cW:=λk=>aL
 simp -zeta only[O.jI,O.nm,O.gK,bV]
 refine dW (n:=b.length) V (λk a=>rm Q a b1 b2 b3 q.ak.toNat (b.take k++dm (q.ak.toNat -k)) (dO q.cW 0 (b.take k)++dm (q.ak.toNat -k)) (dm q.ak.toNat)/\L.size<a.size) ⟨by simpa[dO]using N6,V⟩ ?_
 rintro k H aZ μ hk ⟨S,s7⟩ ar
 have tG:∀{ma mc:E},(∀C,C=L.size\/C=m.size->mc[C]? =ma[C]?)->eH [L.size,m.size] ma mc:=λhh C D=>hh C (by simpa using D)
 have tk:(b.take k).length=k:=bF
 have au:(dO q.cW 0 (b.take k)).length=k:=by rw[mq,tk]
 refine dit (λh1=>?_) λh1=>?_
 .let⟨F,hy⟩:=cK b k
  have ek:Int.toNat (k:Int)*1=k:=V
  have aj:k<q.ak.toNat:=V
  let⟨w8,N⟩:=S.Ax aj F
  have er:(b.take k++dm (q.ak.toNat -k)).set k F=b.take (k+1)++dm (q.ak.toNat -(k+1)):=by
   have:=VX (e:=b.take k) (b:=q.ak.toNat) V F;rw[tk]at this;rw[this,aU hy]
  rw[er]at N
  have eo:dO q.cW 0 (b.take (k+1))=dO q.cW 0 (b.take k)++[if q.cW.any (λF=>F==(k:Int))then 0 else gN F]:=by
   rw[aU hy,ym,tk];simp[dO]
  refine⟨V,V,F,by simpa using(iw S.ext).aE hy,V,V,?_⟩
  rw[ek]
  refine⟨w8,?_⟩
  intro m8
  have s8:m8.size=H.size:=aw _ _ _ _
  refine⟨tG λC D=>bd _ _ _ _ V,?_⟩
  replace N:rm Q m8 b1 b2 b3 q.ak.toNat (b.take (k+1)++dm (q.ak.toNat -(k+1))) (dO q.cW 0 (b.take k)++dm (q.ak.toNat -k)) (dm q.ak.toNat):=N
  clear_value m8
  refine⟨p,N.ext.af (G.box.cg 1),am,V,pl,N.ext.af k1,(mr (aO.ext N.ext) _).mono ?_⟩
  rintro _ m9 ⟨C,rfl,D,ac⟩
  have N9:=N.SA ac
  have s9:=ac.size
  refine⟨ac.dy bF,C,rfl,λaz=>?_,λax=>?_⟩
  .have aD:¬((k:Int)∈q.cW):=nb D az
   refine(nk F m9).mono ?_
   rintro _ aK ⟨rfl,Y⟩
   have aM:=Y.size
   let⟨aJ,ai⟩:=(N9.SA Y).pX aj (gN F)
   have ak:(dO q.cW 0 (b.take k)++dm (q.ak.toNat -k)).set k (gN F)=dO q.cW 0 (b.take (k+1))++dm (q.ak.toNat -(k+1)):=by
    have:=VX (e:=dO q.cW 0 (b.take k)) (b:=q.ak.toNat) V (gN F);rw[au]at this;rw[this,eo,ae (λhh=>aD ((aq k).1 hh))]
   rw[ak]at ai
   refine⟨Y.dy bF,_,rfl,aH (Y.same L.size V) 4,V,V,aJ,?_⟩
   intro aE
   refine⟨tG λC D=>bd _ _ _ _ V,ar V _ ⟨ai,by simp only[aE,aw];omega⟩⟩
  .have Y:(k:Int)∈q.cW:=yb D ax
   refine ar V _ ⟨?_,V⟩
   have:=Yv (e:=dO q.cW 0 (b.take k)) (b:=q.ak.toNat) V
   rw[au]at this
   rw[eo,ao ((aq k).2 Y),<-this];exact N9
 .have aR:k=b.length:=V
  subst aR
  rw[fB]at S
  have hc:dq (λ_=>False) t Q (pU t b1 b2 b3 K.length) H:=S.eJ G.new
  let⟨a1,a2,a3⟩:=S.qv (a:=t) (g:=K.length)
  let⟨F,t7⟩:=G.gC (hc.mono λ_=>False.elim) (G.heap.eJ hc id id)
  have B7:zA (pU t b1 b2 b3 K.length) H [L.size,m.size]:=λC D=>by
   simp at D;refine⟨V,?_⟩;unfold pU;rw[eW V,eW V,eW V];rcases D with rfl|rfl
   .exact G.new _ V
   .exact(B3 _ aL).2
  refine⟨X,F.box.cg 9,?_⟩
  intro N
  have ac:J H N:=(J.az H).aK _
  have jC:fR N H.size 0 [.i g,.i 0,.i I,.s (.mk b1 0 q.ak.toNat q.ak.toNat),.s (.mk b2 0 q.ak.toNat q.ak.toNat),.s (.mk b3 0 q.ak.toNat q.ak.toNat)]:=(cJ.push H _ _).iJ
  let⟨Y,az⟩:=F.ext ac
  have aj:=B7.to az
  clear_value N
  have ch:=λ{k:Nat}{s:O}{e:List Ce}(ab:iP (pU t b1 b2 b3 K.length) H aA 1 k s e)=>ab.eJ (dq.eI (λ_=>False) ac F.new) id
  have aM:(bX j g I b).ak=b++dm (q.ak.toNat -b.length):=by simp[bX,ah]
  have aK:(bX j g I b).aR=dO q.cW 0 b++dm (q.ak.toNat -b.length):=by simp[bX,ah]
  have aJ:(bX j g I b).aZ=dm q.ak.toNat:=by simp[bX,ah]
  refine⟨ac.de (F.box.cg 9),nR.push Y.an Y.new (x:=.mk H.size 0 1 1) rfl (a:=bX j g I b) jC (by rw[aM];exact ch a1) (by rw[aK];exact ch a2) (by rw[aJ];exact ch a3) V λax qs aY q1 q2=>?_⟩
  have ai:To _ N ax aY:=q2.mono λk hk=>V
  let⟨ak,be⟩:=Y.jR (q2.mono λk hk=>V) q1
  refine⟨ai.dK aj,ak.mJ (i:=9) aL,?_⟩
  intro bc
  let⟨aE,aD⟩:=ak.jE 9 [.s qs]
  exact⟨aD.dK (aj.to ai),ax,aT,y,qs,aE,(((t3.trans t7).trans az).trans ai).trans aD⟩
end
end
section
def Mq(ak:List Int):∀(b aR:List Int)(n:Int),(∀q∈aR,n<=q)->∀q∈bB ak aR b,n -b.length<=q
 |[],aR,n,h,q,c=>by have:=h q c;simp;omega
 |r::b,aR,n,h,q,c=>by
  have k:∀d,(∀q∈d,n -1<=q)->q∈bB ak d b->n -(r::b).length<=q:=λd j a=>by
   have:=Mq ak b d (n -1) j q a;simp only[ba];omega
  rw[bB]at c;refine k _ (λg a=>?_) c;split at a
  .rcases pP a with e|e
   .rcases aW r.toNat aR.length with f|f
    .let⟨y,i⟩:=dD f;have:=h y (aq i);rw[HL i]at e;omega
    .have:gJ aR r (aE aR r -1)=aR:=by unfold gJ;exact rR f
     rw[this]at a;have:=h g a;omega
   .have:=h g e;omega
  .have:=h g a;omega
section
variable{q:E}{g:Nat->Nat}{m:E}{k:Nat}{d p aT j c:O}{a:St}{b:List aX}{f:aX}{r t h:O}{u:List (List Ce)}
def Q5{z:cU}{v:Instr}(C:zy z a b f v){aR:List Int}(aI:aR=bB f.ak f.aR (bR z v))(hM:lj z a f v aR)
 (aa:ST q g m k bU (IB d p (cr z) a aT j c) aT j c a.aT a.heap b f r t h u)(a9:fC q d p z){ak aV:O}(ha:ap q ak v.args)(hj:ap q aV v.eN)(cF:a.heap.length<=900000000)(cL:a.aT.length<=900000000):
 aN cp 60 [vp k 0,vp c.D (c.off+b.length*6),xv v ak aV] m λ_ Q=>DU q g m k d p (cr z) (fu z a b f v aR) Q:=by
 apply yJ (k,0) (c.D,c.off+b.length*6)
 simp -zeta only[aC,aB]
 intro m1
 have cn:J m m1:=(J.az m).aK _
 have s1:m1.size=m.size+1:=by simp[m1]
 let⟨S1,t1⟩:=aa.ext cn
 have B1:zA g m1 [m.size]:=λP hb=>by simp at hb;subst hb;exact⟨V,aa.cV.new _ (ad _)⟩
 clear_value m1
 have cG:=C.Gk
 have cI:aR.length=f.aR.length:=by rw[aI];exact kv _ _ _
 have cQ:r.len=f.ak.length:=by have:=aa.fV.ak.len;simp at this;omega
 have cH:t.len=f.aR.length:=by have:=aa.fV.aR.len;simp at this;omega
 have cy:=ha.len
 have bk:v.args.length<=4:=C.lH.1
 have cN:0<=f.pc/\f.pc<=100000:=by
  have cf:=C.F.pc;obtain⟨pq,_,cg,hP,_,_⟩:=C.I;rw[cg]at cf;have cP:=hP.len;omega
 have e4:cT (f.pc+1)=f.pc+1:=aP V V
 have cE:b.length<=1000:=by
  have bO:=C.ok.depth;have b9:=C.ok.bz;have cc:=C.ok.dX;rw[C.fr]at bO;simp at bO;omega
 refine(vU (a9.ext S1.cV.cz) (S1.cV.box.cg 1) C.call (ha.ext S1.cV.cz) V C.lH.2.2.2.1).mono ?_
 rintro _ m2 ⟨ts,lt,rfl,ba,_,bg,bZ,_⟩
 let⟨S2,t2⟩:=S1.ext bg
 have B2:=B1.to t2
 have cS:=Je z v
 have bp:=ba.len
 have b0:bR z v≠[]->g ts.D=0:=λac=>by
  rcases bZ with w|w|w
  .subst w;simp at bp;exact absurd (List.length_eq_zero_iff.1 bp.symm) ac
  .rw[w];refine aa.cV.jZ _ (iO ha λh0=>?_);let⟨R,B⟩:=UJ _ ac;have:=Cn B;rw[h0]at this;simp at this
  .exact aa.cV.new _ V
 refine⟨t2.dK B1,ts,lt,rfl,?_⟩
 refine dW (n:=(bR z v).length) V (λL Q=>ST q g Q k bU (IB d p (cr z) a aT j c) aT j c a.aT a.heap b {f with aR:=bB f.ak f.aR ((bR z v).take L)} r t h u/\To g m2 g Q) ⟨S2,dq.az _ S2.cV.new⟩ ?_
 rintro L m3 b5 μ hk ⟨S3,t3⟩ bq
 have B3:=B2.to t3
 have ca:(bB f.ak f.aR ((bR z v).take L)).length=f.aR.length:=kv _ _ _
 refine dit (λh1=>?_) λh1=>?_
 .let⟨R,B⟩:=cK (bR z v) L
  have A:=C.Kw R (aq B)
  obtain⟨_,_,_,G,I,_⟩:=S3.fV.iJ
  have K:ap m3 ts (bR z v):=iX ba λac=>t3.eC _ (iO ba ac) (by rw[b0 ac];decide)
  have F:bB f.ak f.aR ((bR z v).take (L+1))=if 1000<=aE f.ak R then gJ (bB f.ak f.aR ((bR z v).take L)) R (aE (bB f.ak f.aR ((bR z v).take L)) R -1)else bB f.ak f.aR ((bR z v).take L):=by
   rw[aU B,uZ];rfl
  refine⟨V,V,R,by simpa using K.aE B,r,G,A.1,V,_,(S3.Aq (by show f.ak.length<=_;omega)).pJ A.1 A.2,λT=>?_,λT=>?_⟩
  .simp only[oH,ar]at T
   have D:R<(bB f.ak f.aR ((bR z v).take L)).length:=V
   have M: -4<=aE (bB f.ak f.aR ((bR z v).take L)) R/\aE (bB f.ak f.aR ((bR z v).take L)) R<=999999:=by
    let⟨qq,aQ,be⟩:=lz _ _ _ _ (lI A.1 D);have Y:=C.OT qq (aq aQ);have h8:=Mq f.ak ((bR z v).take L) f.aR 0 (λau hq=>(C.OT au hq).1) _ (fm A.1 D);have h9:((bR z v).take L).length<=4:=bF;omega
   have e5:cT (aE (bB f.ak f.aR ((bR z v).take L)) R -1)=aE (bB f.ak f.aR ((bR z v).take L)) R -1:=aP V V
   refine⟨t,I,A.1,V,_,(S3.Jz (by show(bB _ _ _).length<=_;omega)).pJ A.1 D,A.1,V,S3.fV.aR.Ob A.1 D,?_⟩
   rw[e5]
   intro H
   let⟨y,t4⟩:=S3.pX A.1 D (aE (bB f.ak f.aR ((bR z v).take L)) R -1)
   refine⟨t4.dK B3,bq V _ ⟨?_,t3.trans t4⟩⟩
   rw[F,ao T];exact y
  .simp only[oH,bM]at T
   refine bq V _ ⟨?_,t3⟩
   rw[F,ae T];exact S3
 rw[bY V,<-aI]at S3
 clear bq ca hk h1 b0 ba bZ bp
 obtain⟨_,g1,_,_,_,_⟩:=S3.fV.iJ
 refine⟨f.pc,g1,S3.fV.Vt,?_⟩
 rw[e4]
 intro H
 let⟨y,t4⟩:=S3.NY (f.pc+1)
 have K:zA g H [m.size]:=B3.to t4
 have b2:eH [m.size] m3 H:=t4.dK B3
 have Z:To g m g H:=((t1.trans t2).trans t3).trans t4
 clear t4
 replace y:ST q g H k bU (IB d p (cr z) a aT j c) aT j c a.aT a.heap b {f with aR:=aR,pc:=f.pc+1} r t h u:=y
 refine⟨b2,?_⟩
 clear b2 g1 S3 t3 B3 t2 B2 S2 bg b5 μ
 clear_value H
 have U:∀{M M':E},eH [m.size] M M'->∀am,af M' m.size am=af M m.size am:=λh am=>aH (h _ aL) am
 have hd:=C.dst
 have bm:f.ak.length=aR.length/\f.aZ.length=aR.length/\aR.length<=2000:=V
 have ay:1<=v.args.length->0<=aE v.args 0/\aE v.args 0<f.ak.length:=λh1=>C.arg _ (fm V V)
 have ga:∀{Q},J q Q->1<=v.args.length->af Q ak.D (ak.off+Int.toNat (0:Int)*1)=some (vi (aE v.args 0)):=λhx h1=>(ha.ext hx).pJ V V
 have gr:∀{g m bx aT j c lo ax t h u own' pc'},ST q g m k bU bx aT j c lo ax b {f with aR:=own',pc:=pc'} r t h u->∀{am:Int},0<=am->am<f.ak.length->af m r.D (r.off+Int.toNat am*1)=some (vi (aE f.ak am)):=λaa am h0 h1=>(aa.Aq (by simp only[];omega)).pJ h0 h1
 have ag:∀{g m bx aT j c lo ax t h u own' pc'},ST q g m k bU bx aT j c lo ax b {f with aR:=own',pc:=pc'} r t h u->af m c.D (c.off+b.length*6+3)=some (O.v r):=λaa=>aa.fV.iJ.2.2.2.1
 have cq:∀r',r'∈v.args->aE f.ak r'<1000->gR (aE f.ak r'):=λr' ci aS=>by
  have bV:=C.arg r' ci;rcases C.F.Sb _ (fm bV.1 bV.2)with T|T
  .exact T
  .omega
 obtain⟨pq,_,_,_,_,hI⟩:=C.I
 have al:=hI.op
 clear hI
 have bs:∀{br:Nat->Nat}{bW:O}{ax:List bN}{M:E}(SM:ST q br M k bU (IB d p (cr z) {a with heap:=ax} aT bW c) aT bW c a.aT ax b {f with aR:=aR,pc:=f.pc+1} r t h u)(tM:To g m br M)(BM:zA br M [m.size])(F bb:Int)(s':St),s'={a with heap:=ax,an:=b++[aX.put {f with aR:=aR,pc:=f.pc+1} v.dst F bb]}->
  aN cp 103 [vp c.D (c.off+b.length*6),vi v.dst,vi F,vi bb] M λ_ Q=>eH [m.size] M Q/\DU q g m k d p (cr z) s' Q:=λSM tM BM F bb s' w=>by
  refine(rB SM hd.1 (by show v.dst<f.ak.length;omega) (by show v.dst<aR.length;omega) F bb).mono ?_
  rintro _ Q ⟨S',t'⟩
  exact⟨t'.dK BM,_,aT,_,c,by rw[w];exact S'.cV,tM.trans t'⟩
 have bf:∀{M:E}(hx:J H M)(X:Int)(s':St),s'={a with an:=b++[{f with aR:=aR,pc:=X}]}->
  fL M c.D (c.off+b.length*6+1) 1/\eH [m.size] M (ah M c.D (c.off+b.length*6+1) [.i X])/\DU q g m k d p (cr z) s' (ah M c.D (c.off+b.length*6+1) [.i X]):=λhx X s' w=>by
  let⟨SM,tM⟩:=y.ext hx
  let⟨S',t'⟩:=SM.NY X
  exact⟨SM.fV.Vt,t'.dK (K.to tM),g,aT,j,c,by rw[w];exact S'.cV,(Z.trans tM).trans t'⟩
 refine⟨λw=>?_,λe0=>?_⟩
 .simp only[bT,aG]at w
  refine(JO y ha C.arg bk w (λe5=>C.lH.2.1 (Or.inl e5)) (λe0 e5=>C.lH.2.2.1 V) (λe0 R B=>cq R B (hM.nV V R B)) bm ⟨hd.1,by show v.dst<aR.length;omega⟩ V).mono ?_
  rintro _ W ⟨aF,aW,aD,aJ,L5,B⟩
  refine⟨B.dK K,aF,aW,aD,aJ,?_,Z.trans B⟩
  have:fu z a b f v aR=(if v.op=0 then{a with an:=b++[aX.put {f with aR:=aR,pc:=f.pc+1} v.dst v.bQ 0]}else if v.op=5 then{a with aT:=a.aT++[aE f.ak (aE v.args 0)],an:=b++[aX.put {f with aR:=aR,pc:=f.pc+1} v.dst (aE f.ak (aE v.args 0)) 0]}else{a with an:=b++[aX.put {f with aR:=aR,pc:=f.pc+1} v.dst (OU v.op (aE f.ak (aE v.args 0)) (aE f.ak (aE v.args 1))) 0]}):=by
   unfold fu;simp only[];by_cases A:v.op=0
   .rw[ao A,ao A]
   rw[ae A,ae A];by_cases D:v.op=5
   .rw[ae V,ao D,ao D]
   .rw[ao V,ae D]
  rw[this];exact L5
 simp only[bt,aj]at e0
 have bd:¬(v.op=1\/v.op=2\/v.op=3\/v.op=4):=V
 have ct:∀F∈f.aZ,F≠0->1000<=F/\ix F<a.heap.length:=λF hw ac=>by
  obtain⟨h1,dd,b_,_⟩:=C.Lk F hw ac;exact⟨h1,av b_⟩
 refine⟨λw=>?_,λe6=>?_⟩
 .simp only[aG]at w
  have h6:=C.lH.2.2.2.2.1 w
  refine(Ga y ha C.arg bk bm ⟨h6.1,h6.2.1⟩ V ct).mono ?_
  rintro _ W ⟨aF,aD,A,N,rfl,S,B,er,eo,ep,ec⟩
  refine⟨B.dK K,_,rfl,U (B.dK K) 1,(rB S hd.1 (by rw[er];show v.dst<f.ak.length;omega) (by rw[eo];show v.dst<aR.length;omega) (1000+A) 1).mono ?_⟩
  rintro _ D ⟨G,I⟩
  refine⟨I.dK (K.to B),aF,aT,aD,c,?_,(Z.trans B).trans I⟩
  have Y:=ec f.pc
  have ab:N.pc=f.pc+1:=ep
  have h8:({N with pc:=f.pc+1}:aX)=N:=by rw[<-ab]
  rw[h8]at Y
  have:fu z a b f v aR=nJ a b {f with aR:=aR} v v.bQ:=by
   unfold fu nJ;simp only[];rw[ae V,ae bd,ae V,ao w];rfl
  rw[this]
  have h9:nJ a b {f with aR:=aR} v v.bQ={a with heap:=js a.heap A ⟨1,v.bQ,cO f v.args⟩,an:=b++[aX.put N v.dst (1000+A) 1]}:=Y
  rw[h9];exact G.cV
 simp only[aj]at e6
 have F4:FP H c.D (c.off+b.length*6) {f with aR:=aR,pc:=f.pc+1} r t h:=y.fp ⟨by show f.ak.length<=_;omega,by show aR.length<=_;omega,by show f.aZ.length<=_;omega⟩
 have b4:∀{bu:Value->E->Prop},(∀ws M,ap M ws (cO f v.args)->J H M->(cO f v.args≠[]->g ws.D=0)->bu (O.v ws) M)->aN cp 106 [vp c.D (c.off+b.length*6),O.v ak] H bu:=λhk=>by
  refine(vk F4.g3 F4.ak (ha.ext y.cV.cz) C.arg V).mono ?_;rintro _ W ⟨ws,rfl,ow,ai⟩;have cm:(cO f v.args).length=v.args.length:=by simp[cO]
  have iw:ap W ws (cO f v.args):=ap.gB (l:=cO f v.args) ow V;refine hk ws W iw ai λac=>?_;rcases ow.D with w|w
  .subst w;have:=iw.len;simp at this;exact absurd (List.length_eq_zero_iff.1 this.symm) ac
  .exact y.cV.new _ w
 have bg:(eT z.bq).length<=12:=by
  have:=rq C.ok.fe.om.types z.bq.length;rw[nh _ _ (ad _)]at this;exact this
 have cz:0<=cr z/\cr z<=12:=by unfold cr;omega
 refine⟨λw=>?_,λbv=>?_⟩
 .simp only[aG]at w
  have ab:=C.lH.2.2.2.2.2.1 w
  refine⟨cr z,y.cV.box.cg 2,b4 λws W iw ai _=>?_⟩
  let⟨S,B⟩:=y.ext ai
  have A:=K.to B
  have N:=B.dK K
  have Y:cT (cr z+v.bQ)=cr z+v.bQ:=aP V V
  refine⟨N,ws,rfl,U N 2,ai.de (y.cV.box.cg 2),U N 1,?_⟩
  rw[Y]
  refine(DA S (cr z+v.bQ) iw (by simp[cO];omega) V).mono ?_
  rintro _ D ⟨rfl,bw,bi,G,I⟩
  have aY:=I.dK A
  refine⟨aY,_,rfl,U aY 1,bs (bW:=bi) (ax:=js a.heap (dH a.heap) ⟨1,cr z+v.bQ,cO f v.args⟩) G ((Z.trans B).trans I) (A.to I) _ _ _ ?_⟩
  unfold fu;simp only[];rw[ae V,ae bd,ae V,ae e6,ao w]
 simp only[aj]at bv
 have MV:fu z a b f v aR=(
  if v.op=14 then{a with heap:=mO a.heap (aE f.ak (aE v.args 0)),an:=b++[{f with aR:=gJ aR (aE v.args 0) (aE aR (aE v.args 0)+1),pc:=f.pc+1}]}
  else if v.op=15 then{a with heap:=ny (gX a.heap [aE f.ak (aE v.args 0)]),an:=b++[{f with aR:=aR,pc:=f.pc+1}]}
  else if v.op=16\/v.op=17 then tB a b {f with aR:=aR} v
  else if v.op=18 then{a with an:=b++[aX.put {f with aR:=aR,pc:=f.pc+1} v.dst (aE f.ak (aE v.args 0)) (gN (aE f.ak (aE v.args 0)))]}
  else if v.op=19 then{a with an:=b++[aX.put {f with aR:=aR,pc:=f.pc+1} v.dst (aE (aM a.heap (aE f.ak (aE v.args 0))).aF v.bQ) 0]}
  else if v.op=20 then{a with an:=b++[{f with aR:=aR,pc:=if aE f.ak (aE v.args 0)=0 then v.bQ else f.pc+1}]}
  else if v.op=22 then{a with an:=b++[{f with aR:=aR,pc:=v.bQ}]}
  else if v.op=21 then{a with an:=b++[{f with aR:=aR,pc:=aE v.eN (tv (cA z.bq v.bQ) (aM a.heap (aE f.ak (aE v.args 0))).kD)}]}
  else if v.op=9\/v.op=24 then{a with bz:=a.bz+1,an:=if v.op=24 then b++[bX z v.bQ f.dst (cO f v.args)]else b++[{f with aR:=aR,pc:=f.pc+1},bX z v.bQ v.dst (cO f v.args)]}
  else if v.op=11 then{a with bz:=a.bz+1,heap:=apart a.heap (aE f.ak (aE v.args 0)),an:=b++[{f with aR:=aR,pc:=f.pc+1},bX z ((aM a.heap (aE f.ak (aE v.args 0))).kD -cr z) v.dst ((aM a.heap (aE f.ak (aE v.args 0))).aF++[aE f.ak (aE v.args 1)])]}
  else match b.getLast? with|none=>{a with cx:=0,value:=aE f.ak (aE v.args 0),an:=[]}|some aK=>{a with an:=b.dropLast++[aK.put f.dst (aE f.ak (aE v.args 0)) (gN (aE f.ak (aE v.args 0)))]}):=by
  unfold fu
  simp only[]
  rw[ae V,ae bd,ae V,ae e6,ae bv]
  by_cases a0:v.op=14
  .rw[ao a0,ao a0]
  rw[ae a0,ae a0]
  by_cases a1:v.op=15
  .rw[ao a1,ao a1]
  rw[ae a1,ae a1]
  by_cases a2:v.op=16\/v.op=17
  .rw[ao a2,ao a2];rfl
  rw[ae a2,ae a2]
  by_cases a3:v.op=18
  .rw[ao a3,ao a3]
  rw[ae a3,ae a3]
  by_cases a4:v.op=19
  .rw[ao a4,ao a4]
  rw[ae a4,ae a4]
  by_cases a5:v.op=20
  .rw[ao a5,ao a5]
  rw[ae a5,ae a5]
  by_cases a6:v.op=21
  .rw[ao a6,ae V,ao a6]
  rw[ae a6]
  by_cases a7:v.op=22
  .rw[ao a7,ao a7]
  rw[ae a7,ae a7,ae a6]
  by_cases bc:v.op=9
  .rw[ao bc,ao (Or.inl bc),ae V]
  rw[ae bc]
  by_cases a8:v.op=24
  .rw[ao a8,ao (Or.inr a8),ao a8]
  rw[ae a8,ae (show¬(v.op=9\/v.op=24)by omega)]
  by_cases aZ:v.op=11
  .rw[ao aZ,ao aZ]
  rw[ae aZ,ae aZ]
  cases b.getLast?<;>rfl
 rw[MV]
 clear MV
 refine⟨λw=>?_,λbA=>?_⟩
 .simp only[aG]at w
  rw[ao w]
  have h2:=C.lH.2.1 V
  have A:=ay V
  let⟨ab,bC⟩:=hM.VF w
  let⟨Y,a_⟩:=bS ab
  have aS:=av Y
  have bn:=y.cV.heap.len
  have bl:=ab.1
  have az:ix (aE f.ak (aE v.args 0))=(aE f.ak (aE v.args 0) -1000).toNat:=rfl
  have e5:cT (aE f.ak (aE v.args 0) -1000)=aE f.ak (aE v.args 0) -1000:=aP V V
  have bj:cT ((aM a.heap (aE f.ak (aE v.args 0))).aQ+1)=(aM a.heap (aE f.ak (aE v.args 0))).aQ+1:=aP V V
  obtain⟨f0,k0,_⟩:=y.cV.heap.cg Y
  refine⟨j,y.cV.box.cg 8,r,ag y,V,V,_,ga y.cV.cz V,A.1,V,_,gr y A.1 A.2,?_⟩
  rw[e5,<-az]
  refine⟨V,V,_,k0,V,V,y.cV.heap.wr (o:=0) aS bh,?_⟩
  rw[bj]
  intro W
  let⟨bo,c5⟩:=y.cV.heap.rG y.cV.new Y ((aM a.heap (aE f.ak (aE v.args 0))).aQ+1)
  let⟨S,B⟩:=y.gC (c5.mono λL hk=>Or.inl hk) bo
  have aO:aE v.args 0<aR.length:=V
  have bD:0<=aE aR (aE v.args 0)/\aE aR (aE v.args 0)<=999999:=by
   refine⟨hM.nn _ (fm (l:=aR) A.1 aO),?_⟩;have hg:=lI (l:=aR) A.1 aO;rw[aI]at hg;let⟨qq,aQ,be⟩:=lz _ _ _ _ hg;have:=(C.OT qq (aq aQ)).2;rw[<-aI]at be;omega
  have e7:cT (aE aR (aE v.args 0)+1)=aE aR (aE v.args 0)+1:=aP V V
  refine⟨B.dK K,t,S.fV.iJ.2.2.2.2.1,V,V,_,ga S.cV.cz V,A.1,V,aE aR (aE v.args 0),(S.Jz (by show aR.length<=_;omega)).pJ A.1 aO,A.1,V,S.fV.aR.Ob A.1 aO,?_⟩
  rw[e7]
  intro D
  let⟨G,I⟩:=S.pX A.1 aO (aE aR (aE v.args 0)+1)
  exact⟨I.dK (K.to B),g,aT,j,c,G.cV,(Z.trans B).trans I⟩
 simp only[aj]at bA
 rw[ae bA]
 refine⟨λw=>?_,λbC=>?_⟩
 .simp only[aG]at w
  rw[ao w]
  have h2:=C.lH.2.1 V
  have A:=ay V
  have bD:v.args=[aE v.args 0]:=by
   cases hx:v.args with
   |nil=>rw[hx]at h2;simp at h2
   |cons R aO=>cases aO with
    |nil=>rfl
    |cons bj aO=>rw[hx]at h2;simp at h2
  have bj:=C.HE aI hM.nn
  have ht:bR z v=[aE v.args 0]:=by unfold bR;rw[ao V];exact bD
  have bo:=bj.1
  rw[ht]at bo
  refine⟨j,y.cV.box.cg 8,?_⟩
  intro W D
  let⟨G,I,kb⟩:=y.OK
  have R:zA (oG g H.size 5) D [m.size]:=K.to I
  replace G:ST q (oG g H.size 5) D k bU (IB d p (cr z) a aT j c) aT j c a.aT a.heap b {f with aR:=aR,pc:=f.pc+1} r t h u:=G
  replace I:To g H (oG g H.size 5) D:=I
  replace kb:cJ D H.size eE [.s j]:=kb
  clear_value D
  refine⟨r,ag G,V,V,_,ga G.cV.cz V,A.1,V,_,gr G A.1 A.2,(Gb G.cV.heap G.cV.new kb (fJ _ _ _) (W:=λP=>fD b P+dg f.ak aR P) (bo.congr λP=>rfl) bj.2 V).mono ?_⟩
  rintro _ m7 ⟨bH,aO,bE,bG,c7⟩
  let⟨S7,t7⟩:=G.gC c7 bE
  refine⟨t7.dK R,aO,bG.cg 0,S7.cV.mJ (i:=8) aL,?_⟩
  intro m8
  let⟨S8,t8⟩:=S7.jE 8 [.s aO]
  exact⟨t8.dK (R.to t7),bH,aT,aO,c,S8.cV,((Z.trans I).trans t7).trans t8⟩
 simp only[aj]at bC
 rw[ae bC]
 refine⟨λw=>?_,λb6=>?_⟩
 .simp only[bT,aG]at w
  rw[ao w]
  refine(OM y ha C.arg ⟨C.lH.2.2.2.1 w,bk⟩ bm V (λau hq=>?_) (hM.NL w).1 C.ok.heap (show f.pc+1=f.pc+1 from rfl)).mono ?_
  .refine⟨hM.nn au hq,?_⟩
   let⟨L,hk⟩:=List.mem_iff_getElem?.1 hq
   simp only[]at hk
   rw[aI]at hk
   let⟨qq,aQ,be⟩:=lz _ _ _ _ hk
   have:=(C.OT qq (aq aQ)).2
   omega
  rintro _ W ⟨aF,aW,aD,aJ,L5,B⟩
  exact⟨B.dK K,aF,aW,aD,aJ,L5,Z.trans B⟩
 simp only[bt,aj]at b6
 rw[ae V]
 refine⟨λw=>?_,λbD=>?_⟩
 .simp only[aG]at w
  rw[ao w]
  have h2:=C.lH.2.1 V
  have A:=ay V
  refine⟨r,ag y,V,V,_,ga y.cV.cz V,A.1,V,_,gr y A.1 A.2,(nk _ _).mono ?_⟩
  rintro _ W ⟨rfl,ai⟩
  let⟨S,B⟩:=y.ext ai
  have N:=B.dK K
  exact⟨N,_,rfl,U N 1,bs (ax:=a.heap) S (Z.trans B) (K.to B) _ _ _ rfl⟩
 simp only[aj]at bD
 rw[ae bD]
 refine⟨λw=>?_,λbE=>?_⟩
 .simp only[aG]at w
  rw[ao w]
  have h2:=C.lH.2.1 V
  have A:=ay V
  let⟨ab,aO⟩:=hM.load w
  let⟨Y,a_⟩:=bS ab
  have aS:=av Y
  have bn:=y.cV.heap.len
  have bl:=ab.1
  have az:ix (aE f.ak (aE v.args 0))=(aE f.ak (aE v.args 0) -1000).toNat:=rfl
  have e5:cT (aE f.ak (aE v.args 0) -1000)=aE f.ak (aE v.args 0) -1000:=aP V V
  obtain⟨f0,_,_,k2,kf,_⟩:=y.cV.heap.cg Y
  have aQ:=kf.len
  unfold lW at al
  rw[ae V,ae V,ae V,ae V,ae V,ae V,ae V,ao w]at al
  refine⟨j,y.cV.box.cg 8,r,ag y,V,V,_,ga y.cV.cz V,A.1,V,_,gr y A.1 A.2,?_⟩
  rw[e5,<-az]
  exact⟨V,V,f0,k2,al.2.1,V,_,kf.pJ al.2.1 aO,bs (ax:=a.heap) y Z K _ _ _ rfl⟩
 simp only[aj]at bE
 rw[ae bE]
 refine⟨λw=>?_,λbG=>?_⟩
 .simp only[aG]at w
  rw[ao w]
  have h2:=C.lH.2.1 V
  have A:=ay V
  refine⟨r,ag y,V,V,_,ga y.cV.cz V,A.1,V,_,gr y A.1 A.2,λT=>?_,λT=>?_⟩
  .simp at T;exact bf (J.az _) _ _ (by rw[ao T])
  .simp at T;exact⟨g,aT,j,c,by rw[ae T];exact y.cV,Z⟩
 simp only[aj]at bG
 rw[ae bG]
 refine⟨λw=>?_,λbI=>?_⟩
 .simp only[aG]at w
  rw[ao w]
  exact bf (J.az _) _ _ rfl
 simp only[aj]at bI
 rw[ae bI]
 refine⟨λw=>?_,λbH=>?_⟩
 .simp only[aG]at w
  rw[ao w]
  have h2:=C.lH.2.1 V
  have A:=ay V
  let⟨ab,bo⟩:=hM.Fp w
  let⟨Y,a_⟩:=bS ab
  have aS:=av Y
  have bn:=y.cV.heap.len
  have bl:=ab.1
  have az:ix (aE f.ak (aE v.args 0))=(aE f.ak (aE v.args 0) -1000).toNat:=rfl
  have e5:cT (aE f.ak (aE v.args 0) -1000)=aE f.ak (aE v.args 0) -1000:=aP V V
  obtain⟨f0,_,k1,_⟩:=y.cV.heap.cg Y
  unfold lW at al
  rw[ae V,ae V,ae V,ae V,ae V,ae V,ae V,ae V,ae V,ae V,ao w]at al
  have bK:tv (cA z.bq v.bQ) (aM a.heap (aE f.ak (aE v.args 0))).kD<(cA z.bq v.bQ).length:=uc ⟨_,bo,aL⟩
  have bP:=hj.len
  have bL:=al.2.2.1
  refine⟨j,y.cV.box.cg 8,r,ag y,V,V,_,ga y.cV.cz V,A.1,V,_,gr y A.1 A.2,?_⟩
  rw[e5,<-az]
  refine⟨V,V,_,k1,d,y.cV.box.cg 0,(tw (a9.ext y.cV.cz).bq C.ok.fe.om.types v.bQ).mono ?_⟩
  rintro _ W ⟨cs,rfl,bJ,ai⟩
  let⟨S,B⟩:=y.ext ai
  have N:=B.dK K
  refine⟨N,cs,rfl,U N 5,(sC bJ _).mono ?_⟩
  rintro _ D ⟨ri,rfl,aO,be⟩
  let⟨G,I⟩:=S.ext aO
  have aY:=I.dK (K.to B)
  have bj:ri=tv (cA z.bq v.bQ) (aM a.heap (aE f.ak (aE v.args 0))).kD:=by
   rcases be with⟨_,aQ⟩|⟨_,he⟩
   .exact absurd bo aQ
   .exact he
  subst bj
  exact⟨aY,_,rfl,U aY 5,V,V,_,(hj.ext G.cV.cz).pJ V V,bf (ai.trans aO) _ _ rfl⟩
 simp only[aj]at bH
 rw[ae bH]
 have bL:0<=a.bz/\a.bz<=100000:=by
  have b9:=C.ok.bz;have cc:=C.ok.dX;omega
 have aY:=C.ok.fe
 refine⟨λw=>?_,λe9=>?_⟩
 .simp only[bT,aG]at w
  rw[ao w]
  unfold lW at al
  rw[ae V,ae V,ae V,ae V,ao w]at al
  let⟨au,be,aO,bK⟩:=al
  have cj:=(aY.dB au (aq aO)).ak
  have h3:=(aY.om.dB au (aq aO)).1
  have cm:(cO f v.args).length=v.args.length:=by simp[cO]
  refine b4 λws W iw ai bj=>?_
  let⟨S,B⟩:=y.ext ai
  have N:=B.dK K
  refine⟨N,ws,rfl,U N 0,U N 1,U N 2,U N 3,U N 4,U N 5,U N 2,(FW S a9 be aO V iw bj V v ak aV V bL).mono ?_⟩
  rintro _ D ⟨bw,bJ,bi,aQ,L6,I⟩
  exact⟨I.dK (K.to B),bw,bJ,bi,aQ,L6,(Z.trans B).trans I⟩
 simp only[bt,aj]at e9
 rw[ae V]
 refine⟨λw=>?_,λbw=>?_⟩
 .simp only[aG]at w
  rw[ao w]
  have h2:=C.lH.2.2.1 V
  have A:=ay V
  have bj:0<=aE v.args 1/\aE v.args 1<f.ak.length:=C.arg _ (fm V V)
  let⟨ab,ck,cR,ce,cb,cC⟩:=hM.apply w
  let⟨Y,a_⟩:=bS ab
  have bK:=C.ok.heap.cell _ (aq Y)
  have cD:=bK.fl
  have bo:=(bK.oZ a_).2
  have aS:=av Y
  have bn:=y.cV.heap.len
  have bl:=ab.1
  have az:ix (aE f.ak (aE v.args 0))=(aE f.ak (aE v.args 0) -1000).toNat:=rfl
  have e5:cT (aE f.ak (aE v.args 0) -1000)=aE f.ak (aE v.args 0) -1000:=aP V V
  let⟨f0,k0,k1,k2,kf,kr⟩:=y.cV.heap.cg Y
  refine⟨r,ag y,V,V,_,ga y.cV.cz V,A.1,V,_,gr y A.1 A.2,j,y.cV.box.cg 8,?_⟩
  rw[e5,<-az]
  generalize hw:aE f.ak (aE v.args 0)=F at*
  have gv:∀{g m bx aT j c lo ax t h u own' pc'},ST q g m k bU bx aT j c lo ax b {f with aR:=own',pc:=pc'} r t h u->af m r.D (r.off+Int.toNat (aE v.args 1)*1)=some (vi (aE f.ak (aE v.args 1))):=λaa=>gr aa bj.1 bj.2
  generalize hv:aE f.ak (aE v.args 1)=X at*
  let⟨au,hq⟩:=cK z.cE (((aM a.heap F).kD -cr z).toNat)
  have ch:dQ z ((aM a.heap F).kD -cr z)=au:=by simp[dQ,hq]
  rw[ch]at ce cb
  have cj:=(aY.dB au (aq hq)).ak
  have h3:=(aY.om.dB au (aq hq)).1
  refine⟨V,V,_,k0,_,k1,f0,k2,?_⟩
  intro W D
  have bi:J H D:=((J.az H).aK _).ah (ad _) _ _
  have s6:D.size=H.size+1:=by simp[D,W,aw]
  let⟨G,I⟩:=y.ext bi
  clear_value D
  have R:zA g D [H.size,m.size]:=λP hb=>by
   simp at hb;rcases hb with rfl|rfl
   .exact⟨V,y.cV.new _ (ad _)⟩
   .exact K.to I _ aL
  have be:∀{M},J D M->af M ak.D (ak.off+Int.toNat (1:Int)*1)=some (vi (aE v.args 1)):=λhx=>(ha.ext (G.cV.cz.trans hx)).pJ V V
  have ew:cT ((aM a.heap F).kD -cr z)=(aM a.heap F).kD -cr z:=aP V V
  have tail:∀{M:E}{es:O},J D M->ic D M aA 1 es (((aM a.heap F).aF++[X]).map Ce.i)->
   aN cp 113 [vp k 0,vi F,vb false] M λcv Q=>eH [H.size,m.size] M Q/\∃cu:Bool,cv=vb cu/\∃b3:Int,af Q k (0+2)=some (vi b3)/\
    aN cp 112 [vp k 0,vi (cT ((aM a.heap F).kD -b3)),O.v es,xv v ak aV] Q λ_ b1=>eH [H.size,m.size] Q b1/\DU q g m k d p (cr z) {a with bz:=a.bz+1,heap:=apart a.heap F,an:=b++[{f with aR:=aR,pc:=f.pc+1},bX z ((aM a.heap F).kD -cr z) v.dst ((aM a.heap F).aF++[X])]} b1:=λ{M}{es} hx oe=>by
   let⟨SM,tM⟩:=G.ext hx
   have BM:=R.to tM
   have ie:ap M es ((aM a.heap F).aF++[X]):=ap.gB oe bF
   have bQ:es.D<M.size:=iO ie aL
   have bP:g es.D=0:=by
    rcases oe.D with w|w
    .subst w;have:=ie.len;simp at this
    .exact G.cV.new _ w
   refine(DB SM ab false C.ok.heap V).mono ?_
   rintro _ m8 ⟨P,rfl,_,cV,cM,S8,t8⟩
   have hK:rV a.heap F false=apart a.heap F:=by rw[rV,ae (sx)]
   rw[hK]at S8
   have co:ap m8 es ((aM a.heap F).aF++[X]):=iX ie λ_=>t8.eC _ bQ (by rw[bP];decide)
   refine⟨t8.dK BM,P,rfl,cr z,S8.cV.box.cg 2,?_⟩
   rw[ew]
   refine(FW (s:={a with heap:=apart a.heap F}) S8 a9 ck hq V co (λ_=>by rw[t8.gZ _ bQ];exact bP) bF v ak aV V bL).mono ?_
   rintro _ m9 ⟨cw,cs,cd,b7,L9,t9⟩
   refine⟨t9.dK (BM.to t8),cw,cs,cd,b7,?_,(((Z.trans I).trans tM).trans t8).trans t9⟩
   rw[ae V]at L9
   exact L9
  refine⟨r,ag G,V,V,_,be (J.az _),bj.1,V,X,gv G,?_,?_⟩
  .refine(eO (kf.ext bi) V).mono ?_
   rintro _ m7 ⟨cl,rfl,oc,N⟩
   let⟨S7,t7⟩:=G.ext N
   have B7:=R.to t7
   refine⟨t7.dK R,cl,rfl,N.de (gv G),N.de (be (J.az _)),aH (N.same m.size (R _ aL).1) 4,N.de (ag G),?_⟩
   intro m8
   have S:J m7 m8:=(J.az m7).aK _
   refine⟨aH (S.same H.size (B7 _ aL).1) 2,nZ oc N V λes m9 o9 aO=>⟨?_,tail aO o9⟩⟩
   intro P hb
   have aQ:=(R P hb).1
   rw[aO.same P aQ,S.same P (oh N.size),N.same P aQ]
  .intro m7
   have N:J D m7:=(J.az D).aK _
   have s7:m7.size=D.size+1:=by simp[m7]
   have jC:fR m7 D.size 0 [.i X]:=(cJ.push D _ _).iJ
   have b8:cJ m7 D.size aA [.i X]:=cJ.push D _ _
   clear_value m7
   let⟨S7,t7⟩:=G.ext N
   have B7:=R.to t7
   refine⟨aH (N.same H.size (R _ aL).1) 2,(eO (kf.ext (bi.trans N)) V).mono ?_⟩
   rintro _ m8 ⟨cl,rfl,oc,S⟩
   let⟨S8,t8⟩:=S7.ext S
   have cB:cl.len=(aM a.heap F).aF.length:=by have:=oc.len;simp at this;omega
   refine⟨t8.dK B7,cl,rfl,S.de (gv S7),S.de (be N),aH (S.same m.size (B7 _ aL).1) 4,S.de (ag S7),?_⟩
   have bJ:=N.trans S
   refine ic.append (zs:=[.i 0]) (x:=.mk D.size 0 1 1) (d:=[.i X]) (oc.cz V) bJ rfl (b8.ext S).iJ (by simp only[O.gK];omega) λes m9 o9 aO _ _ _ _=>⟨?_,tail aO (by simpa using o9)⟩
   intro P hb
   have aQ:=(R P hb).1
   rw[aO.same P aQ,bJ.same P aQ]
 simp only[aj]at bw
 rw[ae bw]
 refine⟨λw=>?_,λI=>?_⟩
 .simp only[aG]at w
  have h2:=C.lH.2.1 V
  have A:=ay V
  refine⟨r,ag y,V,V,_,ga y.cV.cz V,A.1,V,_,gr y A.1 A.2,(HT y V (aE f.ak (aE v.args 0)) (λaK hg=>?_)).mono ?_⟩
  .have ac:b≠[]:=λw=>by rw[w]at hg;simp at hg
   have D:b=b.dropLast++[aK]:=by
    rw[gE ac]at hg;simp at hg;rw[<-hg];exact(fy ac).symm
   have N:b.length=b.dropLast.length+1:=by
    have:=nD List.length D;simpa using this
   let⟨R,S,Y⟩:=C.ok.chain b.dropLast.length aK f (by rw[C.fr,D];simp) (by rw[C.fr,<-N];simp)
   have G:=C.ok.an aK (by rw[C.fr,D];simp)
   have:=G.lr
   have:=G.lo
   exact⟨R,by show f.dst<_;omega,by show f.dst<_;omega⟩
  rintro _ W ⟨aF,aW,aD,aJ,L5,B⟩
  exact⟨B.dK K,aF,aW,aD,aJ,L5,Z.trans B⟩
 simp only[aj]at I
 have:=C.Zw
 omega
end
end
section
section
variable{f:E}{e:Nat->Nat}{m:E}{b:Nat}{d p aT c a:O}{s:St}
def ON{h:cU}(L:vJ f e m b bU (IB d p (cr h) s aT c a) aT c a s.aT s.heap s.an)(z:fC f d p h)(u:cX h s)(av:∀t∈s.an,∀w∈t.ak,w<=9223372036854775807)(ay:s.heap.length<=900000000)(aD:s.aT.length<=900000000):
 aN cp 33 [vp b 0] m λ_ I=>DU f e m b d p (cr h) (kC h s) I:=by
 apply vY (b,0)
 simp -zeta only[aC,aB]
 refine⟨s.cx,L.box.cg 3,λy=>?_,λy=>?_⟩
 .simp at y
  rw[sY y]
  exact⟨e,aT,c,a,L,dq.az _ L.new⟩
 have G:s.cx=3:=by simpa using y
 let⟨k,g,r⟩:=u.split G
 have az:s.an.getLast?=some g:=by rw[r];simp
 have au:s.an.dropLast=k:=by rw[r];simp
 have C:zy h s k g (cB h g):=⟨u,G,r,rfl,av⟩
 have aH:kC h s=(open Classical in if nl (cB h g).op/\s.bz=s.dX then{s with cx:=1}else if lj h s g (cB h g) (bB g.ak g.aR (bR h (cB h g)))then fu h s k g (cB h g) (bB g.ak g.aR (bR h (cB h g)))else{s with cx:=2}):=by
  unfold kC;rw[ae (by simpa using G),az,au]
 rw[aH]
 generalize cB h g=x at*
 have N:vJ f e m b bU (IB d p (cr h) s aT c a) aT c a s.aT s.heap (k++[g]):=by rw[<-r];exact L
 let⟨aj,ai,W,ak,T⟩:=N.an.fV
 have S:ST f e m b bU (IB d p (cr h) s aT c a) aT c a s.aT s.heap k g aj ai W ak:=⟨N,T⟩
 have aO:=T.ye
 have ab:=u.depth
 have aM:=u.bz
 have aS:=u.dX
 rw[r]at ab
 have aQ:k.length<=1000:=by simp at ab;omega
 have e1:cT ((a.len:Int) -1)=(k.length:Int):=by rw[aP V V];omega
 have e2:Int.toNat (k.length:Int)=k.length:=V
 have U:af m b 9=some (O.v a):=S.cV.box.cg 9
 obtain⟨R,g1,_,_,_,_⟩:=T.iJ
 let⟨aY,hq,aF,hP,aq,hI⟩:=C.I
 let⟨pa,pl,pc,aU,aW,ag,k0,k1,k2,k3,k4⟩:=z.cE.aE hq
 let⟨F,H,Y,hj,i0,i1,i2,i3,i4,i5⟩:=ag.aE aq
 have aX:=z.cE.len
 have aV:=ag.len
 have X:=C.F
 have aE:=X.fw
 have ac:=X.pc
 rw[aF]at ac
 have l:=S.cV.cz
 refine⟨a,U,a,U,?_⟩
 rw[e1,e2]
 refine⟨V,V,p,S.cV.box.cg 1,_,R,aE.1,V,pc,l.af k4,_,g1,ac.1,V,_,l.af i0,_,l.af i1,_,l.af i2,_,l.af i3,F,l.af i4,H,l.af i5,?_⟩
 intro m1
 have o:J m m1:=(J.az m).aK _
 refine⟨o.de (l.af i0),o.de (l.af i1),o.de (l.af i2),o.de (l.af i3),o.de (l.af i4),o.de (l.af i5),o.de g1,o.de (l.af k4),o.de R,o.de (S.cV.box.cg 1),?_⟩
 intro n
 have aI:J m n:=o.ah (ad _) _ _
 have s2:n.size=m.size+1:=by simp[n,m1,aw]
 let⟨j,t2⟩:=S.ext aI
 have A:zA e n [m.size]:=λP l=>by simp at l;subst l;exact⟨V,S.cV.new _ (ad _)⟩
 clear_value n
 have aR:=C.Gk
 have aG:({s with an:=k++[g]}:St)=s:=by rw[<-r]
 have ax:iI n a (k++[g]):=j.cV.an.Eo bF (λt w=>by
  have q:=u.an t (by rw[r];exact w);obtain⟨Q,_,B,v,_⟩:=q.yg u.fe;have D:=q.lr;have K:=q.lo;have M:=q.lh;rw[B]at D K M;have:=v.ak;omega)
 have am:RV n b 3 d p aT c a h s:=by
  have:RV n b 3 d p aT c a h {s with an:=k++[g]}:=⟨z.ext j.cV.cz,j.cV.box.cg 0,j.cV.box.cg 1,j.cV.box.cg 3,j.cV.box.cg 4,j.cV.box.cg 5,j.cV.box.cg 6,j.cV.box.cg 7,j.cV.box.cg 8,j.cV.box.cg 9,j.cV.aT.nV V,j.cV.heap.cells V,ax⟩;rw[aG]at this;exact this
 have F2:FP n a.D (a.off+k.length*6) g aj ai W:=j.fp ⟨V,V,V⟩
 have jV:¬(nl x.op/\s.bz=s.dX)->aN cp 59 [vp b 0,vp a.D (a.off+k.length*6),xv x F H] n λaJ v=>
  eH [m.size] n v/\∃K:Bool,aJ=vb K/\
  ((!K)=true->fL v b (0+3) 1/\let q:E:=ah v b (0+3) [.i (2:Int)]
   eH [m.size] v q/\DU f e m b d p (cr h) (open Classical in if nl x.op/\s.bz=s.dX then{s with cx:=1}else if lj h s g x (bB g.ak g.aR (bR h x))then fu h s k g x (bB g.ak g.aR (bR h x))else{s with cx:=2}) q)/\
  ((!K)=false->aN cp 60 [vp b 0,vp a.D (a.off+k.length*6),xv x F H] v λt q=>
   eH [m.size] v q/\DU f e m b d p (cr h) (open Classical in if nl x.op/\s.bz=s.dX then{s with cx:=1}else if lj h s g x (bB g.ak g.aR (bR h x))then fu h s k g x (bB g.ak g.aR (bR h x))else{s with cx:=2}) q):=λaA=>by
  refine(PT am (j.cV.box.cg 2) C F2 (Y.ext j.cV.cz) V).mono ?_
  rintro _ m3 ⟨P,rfl,Z,al⟩
  let⟨B,t3⟩:=j.ext al
  have M:=A.to t3
  rw[ae aA]
  refine⟨t3.dK A,P,rfl,λq=>?_,λq=>?_⟩
  .rw[ae (nb Z q)]
   refine⟨B.cV.mJ (i:=3) aL,?_⟩
   intro m4
   let⟨D,t⟩:=B.jE 3 [.i 2]
   refine⟨t.dK M,e,aT,c,a,?_,(t2.trans t3).trans t⟩
   have:=D.cV
   rw[<-r]at this
   exact this
  .have w:=yb Z q
   rw[ao w]
   refine(Q5 C rfl w B z Y hj ay aD).mono ?_
   rintro _ m4 ⟨aK,ar,ap,aa,Q,t⟩
   exact⟨t.dK M,aK,ar,ap,aa,Q,(t2.trans t3).trans t⟩
 refine⟨λQ I=>I=n/\(Q=true<->nl x.op),⟨λq=>⟨rfl,by simp at q;simp[nl,q]⟩,λq=>⟨λw=>⟨rfl,by simp at w;simp[nl,w]⟩,λw=>⟨rfl,by simp at q w;simp[nl,q,w]⟩⟩⟩,?_⟩
 rintro Q m3 ⟨rfl,aa⟩
 refine⟨λar=>⟨s.bz,j.cV.box.cg 5,s.dX,j.cV.box.cg 6,λw=>?_,λw=>?_⟩,λap=>?_⟩
 .simp at w
  refine⟨j.cV.mJ (i:=3) aL,?_⟩
  intro m4
  let⟨D,t⟩:=j.jE 3 [.i 1]
  refine⟨t.dK A,e,aT,c,a,?_,t2.trans t⟩
  rw[ao ⟨aa.1 ar,w⟩]
  have:=D.cV
  rw[<-r]at this
  exact this
 .simp at w
  exact jV λt=>w t.2
 .exact jV λt=>by have:=aa.2 t.1;rw[ap]at this;simp at this
end
end
end Go.Proofs.YtkoifinbblcbiaaGreat
section
namespace Go.Vc
def vR{m:E}{b o:Nat}{v:Value}(h:(af m b o).isSome=true):af (rE m b o v) b o=some v:=by
 unfold af at h⊢;simp only[rE,lT,MB];cases d:m[b]? with
 |none=>rw[d]at h;simp at h
 |some f=>
  rw[d]at h;cases f with
  |cells c g i=>
   simp only[]at h;have e:o<c.size:=by
    rcases aW o c.size with a|a
    .exact a
    .rw[Jh a]at h;simp at h
   simp[e]
  |_=>simp at h
def KY{m:E}{c o a b:Nat}{v:Value}(h:a≠c\/b≠o):af (rE m c o v) a b=af m a b:=by
 by_cases d:a=c
 .subst d;have e:b≠o:=by rcases h with h|h;exact absurd rfl h;exact h
  unfold af;simp only[rE,lT,MB];cases d:m[a]? with
  |none=>rfl
  |some f=>
   cases f with
   |cells g i j=>simp[kO e]
   |_=>rfl
 .exact aH (LI _ _ _ _ d) _
def QW(m:E)(c o:Nat)(v:Value)(a d:Nat):vQ (rE m c o v) a d=vQ m a d:=by
 by_cases b:a=c
 .subst b;unfold vQ;simp only[rE,lT,MB];cases b:m[a]? with
  |none=>rfl
  |some e=>
   cases e with
   |cells f g h=>rfl
   |_=>rfl
 .unfold vQ;rw[LI _ _ _ _ b]
structure UD(m:E)(k:Int)(pos:List (Nat×Nat))(m':E):Prop where
 size:m.size<=m'.size
 D:∀b,b<m.size->(∀p∈pos,p.1≠b)->m'[b]? =m[b]?
 cell:∀b o,b<m.size->(b,o)∉pos->af m' b o=af m b o
 vQ:∀b o,b<m.size->Vc.vQ m' b o=Vc.vQ m b o
 int:∀p∈pos,∃n,af m' p.1 p.2=some (vi n)
 val:pos.Nodup->∀(j:Nat)(p:Nat×Nat),pos[j]? =some p->af m' p.1 p.2=some (vi (k+j))
def UD.nil{m c:E}(h:J m c)(k:Int):UD m k [] c:=
 ⟨h.size,λb a _=>h.same b a,λb o a _=>aH (h.same b a) o,λb o a=>by unfold Vc.vQ;rw[h.same b a],aL,aL⟩
def UD.lX{m:E}{b o:Nat}(h:(af m b o).isSome=true)(k:Int):UD m k [(b,o)] (ah m b o [.i k]):=by
 refine⟨ue (aw _ _ _ _).symm,λc f d=>bd _ _ _ _ λe=>d (b,o) aL e.symm,λc q f d=>?_,λc q f=>QW _ _ _ _ _ _,λp a=>?_,λ_ j p a=>?_⟩
 .refine KY ?_;by_cases e:c=b
  .right;intro g;subst e;subst g;simp at d
  .exact Or.inl e
 .simp at a;subst a;exact⟨k,vR h⟩
 .cases j with
  |zero=>
   simp at a;subst a;have e:k+((0:Nat):Int)=k:=V;rw[e];exact vR h
  |succ j=>simp at a
def UD.trans{m l n:E}{k:Int}{e p2:List (Nat×Nat)}(h:UD m k e l)(g:UD l (k+e.length) p2 n):UD m k (e++p2) n:=by
 have v:=h.size;refine⟨bI h.size g.size,λc f b=>?_,λc o f b=>?_,λc o f=>?_,λp a=>?_,λhd j p a=>?_⟩
 .rw[g.D c V λp a=>b p (eF _ a),h.D c f λp a=>b p (bJ _ a)]
 .rw[g.cell c o V λa=>b (eF _ a),h.cell c o f λa=>b (bJ _ a)]
 .rw[g.vQ c o V,h.vQ c o f]
 .by_cases i:p∈p2
  .exact g.int p i
  .have d:p∈e:=by rcases List.mem_append.1 a with d|d;exact d;exact absurd d i
   let⟨q,b⟩:=h.int p d;exact⟨q,by rw[g.cell p.1 p.2 (mz b) i];exact b⟩
 .let⟨i,r,s⟩:=List.nodup_append.1 hd;by_cases u:j<e.length
  .rw[ax u]at a;have d:p∈e:=iE a;let⟨q,b⟩:=h.int p d;rw[g.cell p.1 p.2 (mz b) λt=>s p d p t rfl];exact h.val i j p a
  .rw[aJ V]at a;have:=g.val r _ p a;have d:k+(e.length:Int)+((j -e.length:Nat):Int)=k+j:=V;rw[d]at this;exact this
inductive UE where
 |nil
 |int (r:UE)
 |sl (e r:UE)
def UE.size:UE->Nat
 | .nil=>0
 | .int r=>r.size+1
 | .sl _ r=>r.size+1
inductive Tm where
 |iJ (r:UE)
 |Il (e:UE) (n:Nat)
inductive vO(m:E):Tm->Nat->Nat->List (Nat×Nat)->Prop where
 |nil (b o:Nat):vO m (.iJ .nil) b o []
 |int {b o:Nat} {r:UE} {p:List (Nat×Nat)} {n:Int} (h:af m b o=some (vi n)) (hf:Vc.vQ m b o=false) (hr:vO m (.iJ r) b (o+1) p):vO m (.iJ (.int r)) b o ((b,o)::p)
 |sl {b o:Nat} {e r:UE} {p1 p2:List (Nat×Nat)} {s:O} (h:af m b o=some (O.v s)) (hl:s.len<=9223372036854775807) (he:vO m (.Il e s.len) s.D s.off p1) (hr:vO m (.iJ r) b (o+1) p2):vO m (.iJ (.sl e r)) b o (p1++p2)
 |zero (e:UE) (b o:Nat):vO m (.Il e 0) b o []
 |succ {b o n:Nat} {e:UE} {p1 p2:List (Nat×Nat)} (he:vO m (.iJ e) b o p1) (hr:vO m (.Il e n) b (o+e.size) p2):vO m (.Il e (n+1)) b o (p1++p2)
def vO.nV{m:E}{K:Tm}{f o:Nat}{e:List (Nat×Nat)}(h:vO m K f o e):∀p∈e,∃n,af m p.1 p.2=some (vi n):=by
 induction h with
 |nil=>simp
 |int h c d b=>
  intro p a;rcases List.mem_cons.1 a with rfl|a
  .exact⟨_,h⟩
  .exact b p a
 |sl h i g d b c=>
  intro p a;rcases List.mem_append.1 a with a|a
  .exact b p a
  .exact c p a
 |zero=>simp
 |succ g d b c=>
  intro p a;rcases List.mem_append.1 a with a|a
  .exact b p a
  .exact c p a
def vO.lt{m:E}{K:Tm}{b o:Nat}{a:List (Nat×Nat)}(h:vO m K b o a):∀p∈a,p.1<m.size:=λp d=>let⟨_,c⟩:=h.nV p d;mz c
def Uv(n:Int)(s:O):vi n≠O.v s:=by cases s<;>simp[vi,O.v]
def vO.aaa{m j:E}{u:Int}{q:List (Nat×Nat)}(g:UD m u q j)(t:∀p∈q,∃n,af m p.1 p.2=some (vi n)){K:Tm}{b o:Nat}{k:List (Nat×Nat)}(h:vO m K b o k):vO j K b o k:=by
 induction h with
 |nil=>exact .nil _ _
 | @int b o v p n h d i e=>
  have a:=mz h;by_cases c:(b,o)∈q
  .let⟨l,f⟩:=g.int _ c;exact .int f (by rw[g.vQ b o a];exact d) e
  .exact .int (by rw[g.cell b o a c];exact h) (by rw[g.vQ b o a];exact d) e
 | @sl b o w v x p2 l h r p i d e=>
  have a:=mz h;refine .sl (s:=l) ?_ r d e;rw[g.cell b o a λc=>?_]
  .exact h
  .let⟨n,f⟩:=t _ c;rw[h]at f;exact Uv n l (jS f).symm
 |zero=>exact .zero _ _ _
 |succ p i d e=>exact .succ d e
def vO.ext{m a:E}(d:J m a){K:Tm}{b o:Nat}{c:List (Nat×Nat)}(h:vO m K b o c):vO a K b o c:=h.aaa (UD.nil d 0) aL
end Go.Vc
namespace Go.Proofs.YtkoifinbblcbiaaGreat
open Go.Vc
end Go.Proofs.YtkoifinbblcbiaaGreat
end
namespace Go.Proofs.YtkoifinbblcbiaaGreat
open Go.Vc
section
section
variable{m:E}{s t:O}{l r:List Int}
def jQ(f:ap m s l)(i:ap m t r):dw cp 16 [O.v s,O.v t] m (l=r):=by
 apply Aj;have o:=f.len;have v:=i.len;refine⟨λh=>bW (λe=>?_) (J.az _),λh=>?_⟩
 .subst e;simp at h;omega
 .have u:l.length=r.length:=by simp at h;omega
  refine dW (n:=l.length) (o▸f.gY) (λk a=>J m a/\l.take k=r.take k) ⟨J.az _,aL⟩ ?_;rintro k w I μ q ⟨b,d⟩ p
  refine dit (λj=>?_) λj=>?_
  .let⟨y,g⟩:=cK l k;let⟨z,c⟩:=cK r k;refine⟨V,V,y,by simpa using b.af (f.aE g),V,V,z,by simpa using b.af (i.aE c),λa=>bW (λe=>?_) b,λa=>p V _ ⟨b,?_⟩⟩
   .subst e;rw[g]at c;simp at c a;exact a c
   .simp at a;rw[aU g,aU c,d,a]
  .rw[bY V,bY V]at d;exact iV d b
end
section
variable{m:E}{b P:Nat}{a:O}{S:List Nat}
def Jk.ext{a:E}{dv:O}(h:Jk m dv)(x:J m a):Jk a dv:=⟨h.1,λk d=>let⟨v,b,c,g⟩:=h.2 k d;⟨v,b,c,x.af g⟩⟩
end
end
section
variable{n b:Nat}{f:Nat->Int}{d:cU}{s:St}
def sZ(n:Nat)(f:Nat->Int):List Int:=(List.range n).map f
def oE(n:Nat)(f:Nat->Int):(sZ n f).length=n:=by simp[sZ]
def uY(h:b<n):(sZ n f)[b]? =some (f b):=by
 unfold sZ;rw[cL,Nn h];rfl
def fE{g:Nat->Int}(h:∀b,b<n->f b=g b):sZ n f=sZ n g:=by
 unfold sZ;exact List.map_congr_left λb a=>h b (List.mem_range.1 a)
def Sf(v:Int):(sZ n f).set b v=sZ n (λa=>if a=b then v else f a):=by
 apply hO;intro i;by_cases a:i<n
 .rw[uY a];by_cases e:b=i
  .subst e;rw[dt (by rw[oE];exact a),ao rfl]
  .rw[cv e,uY a,ae (λh=>e h.symm)]
 .rw[cQ (by rw[ez,oE];omega),cQ (by rw[oE];omega)]
def SW(n:Nat):sZ n (λ_=>0)=dm n:=by
 unfold sZ dm;rw[List.map_const'];simp
structure Ok(h:List bN):Prop where
 jG:oB h
 cells:∀c∈h,oI h c
 eA:∀(b:Nat)(c:bN),h[b]? =some c->0<c.aQ->eA h b<=c.aQ
 MD:Td h
structure HI(h:List bN)(f:aX):Prop where
 dB:∀(k:Nat)(w o:Int),f.ak[k]? =some w->f.aR[k]? =some o->(gR w\/1000<=w)/\(0<=o/\o<=999999)/\(0<o->fW h w)
structure Ky(d:cU)(h:List bN)(prev:Option aX)(f:aX):Prop where
 fw:0<=f.fw/\f.fw<d.cE.length
 pc:0<=f.pc/\f.pc<(dQ d f.fw).dv.length
 lr:(f.ak.length:Int)=(dQ d f.fw).ak
 lo:(f.aR.length:Int)=(dQ d f.fw).ak
 lh:(f.aZ.length:Int)=(dQ d f.fw).ak
 ak:HI h f
 first:prev=none->f.dst=0
 next:∀p,prev=some p->0<=f.dst/\f.dst<p.aR.length/\aE p.aR f.dst=0
def nL(a:List aX):Nat->Option aX
 |0=>none
 |k+1=>a[k]?
structure Ol(h:List bN)(fs:List aX):Prop where
 cO:∀f∈fs,∀w∈f.aZ,w=0\/(1000<=w/\ix w<h.length)
 lB:∀(i:Nat)(c:bN),h[i]? =some c->c.aQ<0->dI fs i=1
 nB:∀(i:Nat)(c:bN),h[i]? =some c->0<=c.aQ->dI fs i=0
structure Nt(d:cU)(s:St):Prop where
 fe:nE d
 cx:0<=s.cx/\s.cx<=3
 done:s.cx=0<->s.an=[]
 value:gR s.value
 tY:s.value≠0->s.cx=0
 dX:0<=s.dX/\s.dX<=40
 bz:0<=s.bz/\s.bz<=s.dX
 depth:(s.an.length:Int)<=s.bz+1
 aT:∀n∈s.aT,gR n
 heap:Ok s.heap
 an:∀(k:Nat)(f:aX),s.an[k]? =some f->Ky d s.heap (nL s.an k) f
 aZ:Ol s.heap s.an
 QT:∀(b:Nat)(c:bN),s.heap[b]? =some c->0<c.aQ->c.aQ=eA s.heap b+fD s.an b
def PZ:∀{c:List aX}{b:Nat},0<fD c b->∃f∈c,0<dg f.ak f.aR b
 |[],b,h=>by simp[fD]at h
 |f::c,b,h=>by
  simp only[fD]at h;by_cases d:0<dg f.ak f.aR b
  .exact⟨f,aL,d⟩
  .let⟨g,e,i⟩:=PZ (c:=c) (b:=b) V;exact⟨g,by simp[e],i⟩
def NN:∀{ak aR:List Int}{b:Nat},0<dg ak aR b->∃(k:Nat)(o:Int),ak[k]? =some (1000+(b:Int))/\aR[k]? =some o/\0<o
 |[],aR,b,h=>by simp[dg]at h
 |_::_,[],b,h=>by simp[dg]at h
 |r::i,o::g,b,h=>by
  simp only[dg]at h;by_cases a:r=1000+(b:Int)/\0<o
  .exact⟨0,o,by simp[a.1],rfl,a.2⟩
  .have:0<dg i g b:=by
    split at h
    .rename_i e;have:¬0<o:=λc=>a ⟨e,c⟩;omega
    .omega
   let⟨k,f,c,d,e⟩:=NN this;exact⟨k+1,f,by simpa using c,by simpa using d,e⟩
def Vj{a:List aX}{f:aX}(c:f∈a)(d:∀g∈a,0<=dg g.ak g.aR b):dg f.ak f.aR b<=fD a b:=by
 induction a with
 |nil=>simp at c
 |cons g a i=>
  have m:0<=fD a b:=by
   clear i c;induction a with
   |nil=>simp[fD]
   |cons q a j=>
    have k:=d q aL;have l:=j (λx e=>d x (by simp at e⊢;rcases e with h|h;exact Or.inl h;exact Or.inr (Or.inr h)));simp only[fD];omega
  simp only[fD];rcases List.mem_cons.1 c with rfl|c
  .omega
  .have:=i c λx e=>d x (by simp[e]);have:=d g aL;omega
def Ui{a:List aX}(c:∀g∈a,0<=dg g.ak g.aR b):0<=fD a b:=by
 induction a with
 |nil=>simp[fD]
 |cons q a e=>
  have f:=c q aL;have g:=e λx d=>c x (by simp[d]);simp only[fD];omega
def PR{a:List aX}{f:aX}(c:f∈a):eD f.aZ b<=dI a b:=by
 induction a with
 |nil=>simp at c
 |cons g a d=>
  simp only[dI];rcases List.mem_cons.1 c with rfl|c
  .have:=vS a b;omega
  .have:=d c;have:=iL g.aZ b;omega
def Lf{a:List aX}(h:∀f∈a,∀w∈f.aZ,w≠1000+(b:Int)):dI a b=0:=by
 induction a with
 |nil=>rfl
 |cons g a e=>
  simp only[dI];rw[e λf c=>h f (by simp[c]),nY λd=>h g aL _ d rfl];rfl
def wg{a:List aX}{f:aX}(h:f∈a):∃k:Nat,a[k]? =some f:=List.mem_iff_getElem?.1 h
def Ml(h:Nt d s):cX d s:=by
 have r:∀f∈s.an,∃p,Ky d s.heap p f:=λf c=>let⟨k,g⟩:=wg c;⟨_,h.an k f g⟩;have z:∀b,∀j∈s.an,0<=dg j.ak j.aR b:=λb j t=>by
  let⟨p,a⟩:=r j t;refine tC (λo l=>?_) b;let⟨k,g⟩:=List.mem_iff_getElem?.1 l;have u:=av g;have e:=a.lr;have q:=a.lo;let⟨w,i⟩:=cK j.ak k;exact(a.ak.dB k w o i g).2.1.1
 refine⟨h.fe,h.cx,h.done,h.value,h.tY,h.dX,h.bz,h.depth,h.aT,⟨h.heap.cells,h.heap.MD,h.QT,λb=>Ui (z b),λb y=>?_⟩,h.heap.jG,λf c=>?_,λf c=>(h.an 0 f c).first rfl,λk f j c t=>(h.an (k+1) j t).next f c,λb⟨m,n,v⟩=>h.aZ.lB b m n v,λb g=>?_⟩
 .let⟨f,c,a⟩:=PZ y;let⟨k,o,e,q,x⟩:=NN a;let⟨p,a⟩:=r f c;have:=((a.ak.dB k _ o e q).2.2 x).2;rwa[lL]at this
 .let⟨p,a⟩:=r f c;refine⟨a.fw,a.pc,a.lr,a.lo,a.lh,λw i=>?_,λk o w l i=>?_,λw i=>?_⟩
  .let⟨k,g⟩:=List.mem_iff_getElem?.1 i;have u:=av g;have e:=a.lr;have q:=a.lo;let⟨o,l⟩:=cK f.aR k;exact(a.ak.dB k w o g l).1
  .have:=a.ak.dB k w o i l;exact⟨this.2.1.1,λx=>(this.2.2 x).1⟩
  .rcases h.aZ.cO f c w i with e|e
   .exact Or.inl e
   .exact Or.inr e.1
 .rcases aW b s.heap.length with u|A
  .let⟨m,n⟩:=dD u;refine h.aZ.nB b m n (Int.not_lt.1 λv=>g ⟨m,n,v⟩)
  .refine Lf λf c w i x=>?_;rcases h.aZ.cO f c w i with e|e
   .omega
   .have:=e.2;rw[x,lL]at this;omega
def Oy(h:cX d s):Nt d s:=by
 have E:∀b,∀p∈s.an,0<=dg p.ak p.aR b:=λb p D=>tC (h.an p D).PY b;have y:∀f∈s.an,∀(k:Nat)(w o:Int),f.ak[k]? =some w->f.aR[k]? =some o->0<o->fW s.heap w/\o<=999999:=λf g k w o i n q=>by
  have m:=((h.an f g).aR k o w n i).2 q;have A:=iu m;have B:=Lv (h.an f g).PY i n (d:=ix w) A.symm;have C:=Vj g (E (ix w));have x:=h.heap.lv (ix w) V;let⟨j,e,c⟩:=x;have I:=h.heap.ex _ j e c;have J:=rf s.heap (ix w);have K:=(h.heap.cell j (aq e)).hi;exact⟨⟨m,j,e,c⟩,V⟩
 refine⟨h.fe,h.cx,h.done,h.value,h.tY,h.dX,h.bz,h.depth,h.aT,⟨h.jG,h.heap.cell,λb j e c=>?_,h.heap.MD⟩,λk f g=>?_,⟨λf g w i=>?_,λu j e z=>h.lB u ⟨j,e,z⟩,λu j e z=>h.nB u λ⟨H,r,L⟩=>?_⟩,h.heap.ex⟩
 .have:=h.heap.ex b j e c;have:=h.heap.nn b;omega
 .have t:=aq g;have F:=h.an f t;refine⟨F.fw,F.pc,F.lr,F.lo,F.lh,⟨λv w o i n=>⟨F.Sb w (aq i),⟨(F.aR v o w n i).1,?_⟩,λc=>(y f t v w o i n c).1⟩⟩,λc=>?_,λG c=>?_⟩
  .rcases Ji 0 o with q|q
   .exact(y f t v w o i n q).2
   .omega
  .cases k with
   |zero=>exact h.first f g
   |succ k=>
    simp only[nL]at c;have:=av g;rw[List.getElem?_eq_none_iff]at c;omega
  .cases k with
   |zero=>simp[nL]at c
   |succ k=>exact h.chain k G f c g
 .rcases(h.an f g).aZ w i with m|m
  .exact Or.inl m
  .refine Or.inr ⟨m,Nat.lt_of_not_le λt=>?_⟩;have B:=h.nB (ix w) λ⟨j,e,_⟩=>by have:=av e;omega
   have C:=PR g (b:=ix w);have x:=uK (l:=f.aZ) (f:=ix w) (by rw[iu m];exact i);omega
 .rw[e]at r;simp at r;subst r;omega
end
section
variable{M d:E}{b e a:Nat}{f:Nat->Int}{h:List bN}{w:Int}{c:bN}
def zD(w:Int):Prop:=-9223372036854775808<=w/\w<=9223372036854775807
def Sp(h:List bN):Prop:=∀c∈h,∀w∈c.aF,zD w
def tT(B:cJ M b aA ((sZ e f).map Ce.i))(h:a<e):af M b a=some (vi (f a)):=by
 rw[B.cg a,cL,uY h];rfl
def Jd(B:cJ M b aA ((sZ e f).map Ce.i))(a:Nat)(v:Int):cJ (ah M b a [.i v]) b aA ((sZ e (λx=>if x=a then v else f x)).map Ce.i):=by
 have:=B.ah (m:=M) (o:=a) (r:=[.i v]);rw[Aw,Sf]at this;exact this
def N4(B:cJ M b aA ((sZ e f).map Ce.i))(h:a<e):fL M b a 1:=B.fL (by simp[oE];omega)
def Pa(B:cJ M b aA ((sZ e f).map Ce.i))(h:e<=9223372036854775807):ap M (.mk b 0 e e) (sZ e f):=
 ⟨by simp[oE],ad _,h,λk x a=>⟨[.i x],rfl,λi c d=>by
  have g:k<e:=by have:=av a;rwa[oE]at this
  rw[uY g]at a;simp at a;cases i with
  |zero=>simp at d;subst d;have:=tT B g;rw[a]at this;simpa[Ce.v]using this
  |succ i=>simp at d⟩⟩
def Mo(M:E)(e:Nat):cJ (M.push (.cells (bu (mS [.i (0:Int)] e)) aA)) M.size aA ((sZ e (λ_=>0)).map Ce.i):=by
 rw[ua,SW];exact cJ.push M _ _
def Tu(f:Nat)(b:List Value)(d:E)(l:List Int):Prop:=aN cp f b d λv a=>∃s,v=O.v s/\ap a s l/\J d a
def Md{f:O}(i:cR d f h)(k:zD w):dw cp 177 [O.v f,vi w] d (qJ h w):=by
 apply GY;refine(aY _ _ _ _).then λb m e c=>⟨b,rfl,λa=>iV (Or.inl (e.1 a)) c,λa=>?_⟩;refine(jf (cR.ext c i) k).then λb2 n g l=>⟨b2,rfl,eV ?_ (c.trans l)⟩;rw[g];exact⟨λh=>Or.inr h,λh=>h.resolve_left λj=>fb e a j⟩
def Hi{C f:O}(F:cR d C h)(x:ap d f c.aF)(G:∀w∈c.aF,zD w):dw cp 115 [O.v C,.agg #[vi c.aQ,vi c.kD,O.v f]] d (oI h c):=by
 apply BD;simp -zeta only[aC,aB];intro o;have e:J d o:=(J.az d).aK _;have P:o.size=d.size+1:=by simp[o]
 clear_value o;have B:=x.len;refine⟨λt=>bW (λa=>by have:=a.fl;simp at t;omega) e,λt=>?_⟩;have y:c.aF.length<=3:=by simp at t;omega
 have q:∀b∈[d.size],b<o.size:=bF;refine(aY _ _ _ _).aI (J.az _) q λb N A i _=>⟨b,rfl,λu=>bW (λa=>nb A u ⟨a.lo,a.hi⟩) (e.trans i),λu=>?_⟩;have m:=yb A u;refine⟨λv=>?_,λv=>?_⟩
 .have k:c.aQ<1:=by simpa using v
  refine⟨λl=>?_,λl=>bW (λa=>by simp at l;exact l (a.wY k).1) (e.trans i)⟩;have s:c.kD=0:=by simpa using l
  refine(mE (x.ext (e.trans i))).aI i q λb3 H z j _=>⟨b3,rfl,λg=>?_,λg=>bW (λa=>fb z g (a.wY k).2.1) ((e.trans i).trans j)⟩;have D:=z.1 g;refine⟨λr=>iV ⟨y,m.1,m.2,λ_=>⟨s,D,λp=>by simp at r;omega⟩,λp=>V⟩ ((e.trans i).trans j),λr=>eV ?_ ((e.trans i).trans j)⟩;have E:c.aQ=0:=by simp at r;omega
  constructor
  .intro p;have:c.aF=[]:=by simp at p;exact List.length_eq_zero_iff.1 V
   exact⟨y,m.1,m.2,λ_=>⟨s,D,λ_=>this⟩,λp=>V⟩
  .intro a;have:=(a.wY k).2.2 E;rw[this]at B;simp[B]
 .have k:0<c.aQ:=by simp at v;omega
  refine dW (n:=c.aF.length) V (λz p=>J o p/\∀w∈c.aF.take z,qJ h w) ⟨i,aL⟩ ?_;rintro z H L μ M ⟨j,D⟩ I
  refine dit (λl=>?_) λl=>?_
  .let⟨w,r⟩:=cK c.aF z;refine⟨V,V,w,by simpa using(x.ext (e.trans j)).aE r,(Md (cR.ext (e.trans j) F) (G w (aq r))).aI j q λb4 E p K s=>⟨b4,rfl,λg=>bW (λa=>nb p g ((a.oZ k).1 w (aq r))) (e.trans s),λg=>I V E ⟨s,bD r D (yb p g)⟩⟩⟩
  .refine(aY _ _ _ _).aI j q λb4 E p K s=>⟨b4,rfl,eV ?_ (e.trans s)⟩;rw[p];exact⟨λr=>⟨y,m.1,m.2,λg=>V,λ_=>⟨df V D,r⟩⟩,λa=>(a.oZ k).2⟩
def NV{i:Nat}(b:h[i]? =some c)(a:Nat):eA (h.take (i+1)) a=eA (h.take i) a+eD c.aF a:=by
 rw[aU b,uN];simp[eA]
def rD{l:List Int}{k:Nat}(b:l[k]? =some w)(a:Nat):eD (l.take (k+1)) a=eD (l.take k) a+(if w=1000+(a:Int)then 1 else 0):=by
 rw[aU b,mj];simp[eD]
def Cf:∀(h:List bN)(a:Nat),(∀c∈h,c.aF.length<=3)->eA h a<=3*h.length
 |[],a,_=>by simp[eA]
 |c::h,a,b=>by
  have e:=Cf h a λd hd=>b d (by simp[hd]);have f:=kK c.aF a;have g:=b c aL;simp only[eA,ba];omega
def Jm(b:∀c∈h,oI h c)(d:c∈h)(e:w∈c.aF):fW h w\/w<1000:=by
 by_cases f:0<c.aQ
 .rcases((b c d).oZ f).1 w e with a|a
  .have:=a.2;exact Or.inr V
  .exact Or.inl a
 .have:=((b c d).wY V).2.1 w e;exact Or.inr V
def Bt{B:O}(z:cR d B h)(u:∀c∈h,oI h c)(R:Sp h)(af:h.length<=1000000000):Tu 116 [O.v B] d (sZ h.length (eA h)):=by
 apply G8;have hl:=z.len;have en:Int.toNat (B.len:Int)=h.length:=V;rw[en];refine⟨V,V,V,V,?_⟩;intro C;have Y:J d C:=(J.az d).aK _;have K:cJ C d.size aA ((sZ h.length (λ_=>0)).map Ce.i):=Mo d _;clear_value C;have Q:∀i,∀c∈h.take i,c.aF.length<=3:=λi c S=>(u c (dC S)).fl;refine dW (n:=h.length) V (λi e=>J d e/\cJ e d.size aA ((sZ h.length (λa=>eA (h.take i) a)).map Ce.i)) ⟨Y,by simpa[eA]using K⟩ ?_;rintro i m2 Z μ hi ⟨I,p⟩ X
 refine dit (λN=>?_) λN=>?_
 .let⟨c,v⟩:=cK h i;have x:=aq v;have ab:=(u c x).fl;refine dW (n:=c.aF.length) V (λk e=>J d e/\cJ e d.size aA ((sZ h.length (λa=>eA (h.take i) a+eD (c.aF.take k) a)).map Ce.i)) ⟨I,by simpa[eD]using p⟩ ?_;rintro k U aa ν hk ⟨m,o⟩ H;obtain⟨f,y,_,_,s⟩:=(cR.ext m z).aE v;have ac:=y.len;refine⟨V,V,f,by simpa using s,dit (λP=>?_) λP=>?_⟩
  .let⟨w,l⟩:=cK c.aF k;have G:=aq l;have F:=R c x w G;refine⟨V,V,f,by simpa using s,V,V,w,by simpa using y.aE l,(jf (cR.ext m z) F).then λb W j e=>⟨b,rfl,λt=>?_,λt=>?_⟩⟩
   .have A:=j.1 t;have E:=av (bS A).1;have L:cT (w -1000)=(ix w:Nat):=by have:=A.1;have:=F.2;unfold ix;rw[aP V V];omega
    have M:Int.toNat ((ix w:Nat):Int)=ix w:=V;have q:=o.ext e;have q1:=Cf (h.take i) (ix w) (Q i);have q2:=kK (c.aF.take k) (ix w);have q3:=rf (h.take i) (ix w);have q4:=iL (c.aF.take k) (ix w);have q5:(h.take i).length<=h.length:=bF;have q6:(c.aF.take k).length<=3:=bF;refine⟨V,V,f,by simpa using e.af s,V,V,w,by simpa using(y.ext e).aE l,?_⟩;rw[L,M];simp only[O.gK,O.jI,O.nm,bV,eS];refine⟨V,V,_,tT q E,V,V,N4 q E,?_⟩;rw[show cT (eA (h.take i) (ix w)+eD (c.aF.take k) (ix w)+1)=eA (h.take i) (ix w)+eD (c.aF.take k) (ix w)+1 from aP V V];refine H V _ ⟨(m.trans e).ah (ad _) _ _,?_⟩;have D:=Jd q (ix w) (eA (h.take i) (ix w)+eD (c.aF.take k) (ix w)+1);rw[fE (g:=λa=>eA (h.take i) a+eD (c.aF.take (k+1)) a)]at D
    .exact D
    .intro b j;rw[rD l];by_cases r:b=ix w
     .subst r;rw[ao rfl,ao (iu A.1).symm];omega
     .rw[ae r,ae (λT=>r (by rw[T,lL]))];omega
   .refine H V W ⟨m.trans e,?_⟩;have q:w<1000:=(Jm u x G).resolve_left (fb j t);rw[fE (g:=λa=>eA (h.take i) a+eD (c.aF.take k) a)]
    .exact o.ext e
    .intro b j;rw[rD l,ae V];omega
  .refine X V U ⟨m,?_⟩
   have e:c.aF.take k=c.aF:=bY V;rw[e]at o;rw[fE (g:=λa=>eA (h.take i) a+eD c.aF a)]
   .exact o
   .intro b j;exact NV v b
 .rw[bY V]at p;exact⟨_,rfl,Pa p V,I⟩
end
section
variable{a b c:Nat}{h:List bN}{M g:E}{e:Nat->Bool}
def mP(mk:Nat->Bool):Nat->Nat
 |0=>0
 |c+1=>mP mk c+(if mk c=true then 1 else 0)
def FJ(mk:Nat->Bool):∀c,mP mk c<=c
 |0=>ad _
 |c+1=>by have:=FJ mk c;simp only[mP];split<;>omega
def KM{mk:Nat->Bool}:∀{c:Nat},(mP mk c=c<->∀i,i<c->mk i=true)
 |0=>by simp[mP]
 |c+1=>by
  have g:=FJ mk c;have a:=KM (mk:=mk) (c:=c);simp only[mP];constructor
  .intro h i f;have b:mk c=true:=by by_cases e:mk c=true;exact e;rw[ae e]at h;omega
   rw[ao b]at h;rcases aW i c with d|d
   .exact a.1 V i d
   .have:i=c:=V;rw[this];exact b
  .intro h;rw[ao (h c V),a.2 λi f=>h i V]
def KN{mk a:Nat->Bool}:∀{c:Nat},(∀i,i<c->mk i=a i)->mP mk c=mP a c
 |0,_=>rfl
 |c+1,h=>by simp only[mP];rw[KN λi b=>h i V,h c V]
def mW(mk:Nat->Bool)(a:Nat):Nat->Bool:=λx=>if x=a then true else mk x
def Cj(mk:Nat->Bool)(a:Nat):mW mk a a=true:=ao rfl
def pW{mk:Nat->Bool}(h:b≠a):mW mk a b=mk b:=ae h
def Ck{mk:Nat->Bool}(h:mk b=true):mW mk a b=true:=by unfold mW;split;rfl;exact h
def zR{mk:Nat->Bool}{a:Nat}(h:mk a=false):∀{c:Nat},a<c->mP (mW mk a) c=mP mk c+1
 |0,d=>absurd d (eY _)
 |c+1,d=>by
  simp only[mP];rcases aW a c with b|b
  .rw[zR h b,pW V];omega
  .have e:a=c:=V;subst e;rw[Cj,ao rfl,h,ae aL,KN (a:=mk) λi f=>pW V]
def Ns(h:List bN)(mk:Nat->Bool):Prop:=
 ∃t:Nat->Nat,(∀j,mk j=true->t j<=mP mk h.length)/\∀(i:Nat)(c:bN),h[i]? =some c->mk i=true->∀w∈c.aF,1000<=w->mk (ix w)=true/\t (ix w)<t i
def Pn(mk:Nat->Bool)(a:List Int):Prop:=∀w∈a,1000<=w->mk (ix w)=true
def Ns.set{mk:Nat->Bool}(u:Ns h mk){j:bN}(l:h[a]? =some j)(e:mk a=false)(s:Pn mk j.aF):Ns h (mW mk a):=by
 let⟨z,k,r⟩:=u;have t:=av l;have q:=zR e t;refine⟨λx=>if x=a then mP mk h.length+1 else z x,λv n=>?_,λi d hd m w p o=>?_⟩
 .simp only[q];split
  .omega
  .rename_i b;rw[pW b]at n;have:=k v n;omega
 .by_cases f:i=a
  .subst f;rw[l]at hd;simp at hd;subst hd;have b:=s w p o;have g:ix w≠i:=λc=>by rw[c,e]at b;cases b
   simp only[ao,ae g];exact⟨Ck b,oh (k _ b)⟩
  .rw[pW f]at m;let⟨b,y⟩:=r i d hd m w p o;have g:ix w≠a:=λc=>by rw[c,e]at b;cases b
   simp only[ae f,ae g];exact⟨Ck b,y⟩
def SF{mk:Nat->Bool}(n:Ns h mk)(m:∀a∈h,∀w∈a.aF,1000<=w->ix w<h.length)(k:∀(i:Nat)(a:bN),h[i]? =some a->mk i=true\/¬Pn mk a.aF):
 mP mk h.length=h.length<->Td h:=by
 rw[KM]
 constructor
 .intro g
  obtain⟨t,_,f⟩:=n
  exact⟨t,λi a b w e d=>(f i a b (g i (av b)) w e d).2⟩
 .rintro⟨j,o⟩
  have q:∀(c i:Nat),j i<c->i<h.length->mk i=true:=by
   intro c;induction c with
   |zero=>intro i g;omega
   |succ c p=>
    intro i g l;let⟨a,b⟩:=dD l;rcases k i a b with f|f
    .exact f
    .refine absurd (λw e d=>?_) f;exact p (ix w) (oh (o i a b w e d)) (m a (aq b) w e d)
  exactλi g=>q (j i+1) i V g
def zO(c:Nat)(e:Nat->Bool):List Ce:=(List.range c).map λa=>Ce.t (e a)
def FF(c:Nat)(e:Nat->Bool):(zO c e).length=c:=by simp[zO]
def RC(B:cJ M b ta (zO c e))(h:a<c):af M b a=some (vb (e a)):=by
 rw[B.cg a];unfold zO;rw[cL,Nn h];rfl
def UX(B:cJ M b ta (zO c e))(a:Nat):cJ (ah M b a [.t true]) b ta (zO c (mW e a)):=by
 have j:=B.ah (m:=M) (o:=a) (r:=[.t true]);have d:jm (zO c e) a [.t true]=zO c (mW e a):=by
  apply hO;intro i;simp only[jm];by_cases k:i<c
  .have f:∀g:Nat->Bool,(zO c g)[i]? =some (.t (g i)):=λg=>by unfold zO;rw[cL,Nn k];rfl
   rw[f];by_cases d:a=i
   .subst d;rw[dt (by rw[FF];exact k),Cj]
   .rw[cv d,f,pW (λh=>d h.symm)]
  .rw[cQ (by rw[ez,FF];omega),cQ (by rw[FF];omega)]
 rw[d]at j;exact j
def UW(M:E)(c:Nat):cJ (M.push (.cells (bu (mS [.t false] c)) ta)) M.size ta (zO c (λ_=>false)):=by
 have e:mS [.t false] c=zO c (λ_=>false):=by
  unfold mS zO;rw[List.map_const'];simp
 rw[e];exact cJ.push M _ _
def Gw{mk:Nat->Bool}{e:O}{d:List Int}(B:cJ g b ta (zO c mk))(k:ap g e d)(p:∀w∈d,zD w)(E:∀w∈d,1000<=w->ix w<c):
 dw cp 178 [O.v (.mk b 0 c c),O.v e] g (Pn mk d):=by
 apply AE
 have H:=k.len
 have K:=k.gY
 refine dW (n:=d.length) V (λr a=>J g a/\Pn mk (d.take r)) ⟨J.az _,λw p=>by simp at p⟩ ?_
 rintro r L I μ G ⟨f,l⟩ x
 refine dit (λA=>?_) λA=>?_
 .let⟨w,h⟩:=cK d r
  have q:=aq h
  have C:=p w q
  refine⟨V,V,w,by simpa using(k.ext f).aE h,(dY _ _).then λF u t i=>⟨F,rfl,λo=>?_,λo=>?_⟩⟩
  .have s:=t.1 o
   have D:=E w q s
   have y:cT (w -1000)=(ix w:Nat):=by have:=C.2;unfold ix;rw[aP V V];omega
   have z:Int.toNat ((ix w:Nat):Int)=ix w:=V
   refine⟨V,V,w,by simpa using(k.ext (f.trans i)).aE h,?_⟩
   rw[y,z]
   simp only[O.gK,O.jI,O.nm,bV,eS]
   refine⟨V,V,mk (ix w),RC (B.ext (f.trans i)) D,λj=>bW (λa=>by rw[a w q s]at j;cases j) (f.trans i),λj=>x V u ⟨f.trans i,?_⟩⟩
   rw[Pn,aU h]
   intro v a m
   rcases List.mem_append.1 a with a|a
   .exact l v a m
   .simp at a;subst a;simpa using j
  .refine x V u ⟨f.trans i,?_⟩
   rw[Pn,aU h]
   intro v a m
   rcases List.mem_append.1 a with a|a
   .exact l v a m
   .simp at a;subst a;exact absurd m (fb t o)
 .rw[bY V]at l
  exact iV l f
def GQ{y:O}(L:cR g y h)(hc:∀d∈h,oI h d)(aa:Sp h)(ae:h.length<=1000000000):dw cp 117 [O.v y] g (Td h):=by
 apply Bb;have hl:=L.len;have en:Int.toNat (y.len:Int)=h.length:=V;rw[en];have N:∀d∈h,∀G∈d.aF,1000<=G->ix G<h.length:=λd hm G hw y=>by
  rcases Jm hc hm hw with o|o
  .exact av (bS o).1
  .omega
 refine⟨V,V,V,V,?_⟩;intro F;have x1:J g F:=(J.az g).aK _;have W:cJ F g.size ta (zO h.length (λ_=>false)):=UW g _;clear_value F;have X:mP (λ_=>false) h.length=0:=by
  generalize h.length=c;induction c with
  |zero=>rfl
  |succ c a=>simp[mP,a]
 refine Si (γ:=(Nat->Bool)×Bool) (λf R il u=>il=f.2/\R=(mP f.1 h.length:Nat)/\J g u/\cJ u g.size ta (zO h.length f.1)/\Ns h f.1/\(il=false->∀(i:Nat)(d:bN),h[i]? =some d->f.1 i=true\/¬Pn f.1 d.aF))
  (λf=>if f.2=true then h.length -mP f.1 h.length+1 else 0) (λ_=>false,true) ⟨rfl,by rw[X];rfl,x1,W,⟨λ_=>0,aL,aL⟩,aL⟩ ?_
 rintro⟨mk,il⟩ R af m2 ab μ ⟨rfl,rfl,U,H,B,I⟩ T
 simp only at H B I T⊢
 refine⟨λo=>?_,λo=>?_⟩
 .refine⟨λS z i u=>∃(k:Nat)(a:Nat->Bool),i=k/\k<=h.length/\S=(mP a h.length:Nat)/\J g u/\cJ u g.size ta (zO h.length a)/\Ns h a/\mP mk h.length<=mP a h.length/\(z=true->mP mk h.length<mP a h.length)/\
   (z=false->∀(i:Nat)(d:bN),i<k->h[i]? =some d->a i=true\/¬Pn a d.aF),λ_ _ i _=>((h.length:Int) -i).toNat,⟨0,mk,rfl,dP _,rfl,U,H,B,ad _,aL,λ_ i d j=>absurd j (eY _)⟩,?_⟩
  rintro S z i m3 ⟨k,a,rfl,hk,rfl,v,n,w,Q,E,E3⟩;have ac:=FJ a h.length;have kC:∀{P:Prop},k<h.length->(cT ((k:Int)+1)=((k+1:Nat):Int)->((h.length:Int) -((k+1:Nat):Int)).toNat<((h.length:Int) -(k:Int)).toNat->P)->P:=λM hP=>hP (kN M V) (DF M);refine dit (λh2=>?_) λh2=>?_
  .have p:k<h.length:=V;let⟨d,s⟩:=dD p;have Y:Int.toNat (k:Int)=k:=V;simp only[O.gK,O.jI,O.nm,bV,eS,Y];refine⟨V,V,a k,RC n p,λC=>?_,λC=>?_⟩
   .have x:a k=false:=by simpa using C
    obtain⟨e,hf,_,_,Z⟩:=(cR.ext v L).aE s;refine⟨V,V,e,Z,(Gw n hf (aa d (aq s)) (N d (aq s))).then λb m4 K A=>⟨b,rfl,λD=>?_,λD=>?_⟩⟩
    .have j:=n.ext A;have m:=zR x p;refine⟨V,V,j.fL (by rw[FF];omega),?_⟩;refine kC p λr t=>?_;rw[r,show cT ((mP a h.length:Nat)+1:Int)=((mP (mW a k) h.length:Nat):Int)by rw[m,aP V V];omega];exact⟨⟨k+1,mW a k,rfl,V,rfl,(v.trans A).ah (ad _) _ _,UX j k,w.set s x (K.1 D),V,λ_=>V,λl=>by cases l⟩,t⟩
    .refine kC p λr t=>?_;rw[r];refine⟨⟨k+1,a,rfl,V,rfl,v.trans A,n.ext A,w,Q,E,λl j q hj hd=>?_⟩,t⟩;rcases aW j k with m|m
     .exact E3 l j q m hd
     .have:j=k:=V;subst this;rw[s]at hd;simp at hd;subst hd;exact Or.inr (fb K D)
   .have x:a k=true:=by simpa using C
    refine kC p λr t=>?_;rw[r];refine⟨⟨k+1,a,rfl,V,rfl,v,n,w,Q,E,λl j q hj hd=>?_⟩,t⟩;rcases aW j k with m|m
    .exact E3 l j q m hd
    .have:j=k:=V;subst this;exact Or.inl x
  .refine T (a,z) _ _ m3 ⟨rfl,rfl,v,n,w,λl j q hd=>E3 l j q (oh (av hd)) hd⟩ ?_
   simp only[o,MB];split
   .rename_i m;have:=E m;omega
   .omega
 .refine eV ?_ U;rw[<-SF B N (I o)];simp;omega
def Hk{r:O}(m:cR g r h)(C:Sp h)(K:h.length<=1000000000):dw cp 62 [O.v r] g (Ok h):=by
 apply BG;have Z:=m.len;refine⟨λs=>s=g/\oB h,⟨λq=>?_,λq=>⟨rfl,λc d=>?_⟩⟩,?_⟩
 .simp at q;rw[aP V V];let⟨c,d⟩:=cK h (h.length -1);obtain⟨e,B,g1,_,_⟩:=m.aE d;have i:Int.toNat ((r.len:Int) -1)=h.length -1:=V;rw[i];refine⟨V,V,c.aQ,g1,λj=>bW (λl=>l.jG c d (by simpa using j)) (J.az _),λj=>⟨rfl,λo hd=>?_⟩⟩;rw[d]at hd;simp at hd;subst hd;simpa using j
 .have:=av d;simp at q;omega
 rintro S ⟨rfl,R⟩;refine dW (n:=h.length) V (λi s=>J S s/\∀c∈h.take i,oI h c) ⟨J.az _,aL⟩ ?_;rintro i m2 W μ l ⟨p,G⟩ T
 refine dit (λq=>?_) λq=>?_
 .let⟨c,d⟩:=cK h i;let⟨e,B,g1,g2,E⟩:=(cR.ext p m).aE d;refine⟨V,V,c.aQ,by simpa using g1,c.kD,by simpa using g2,e,by simpa using E,(Hi (cR.ext p m) B (C c (aq d))).then λb D u w=>⟨b,rfl,λj=>bW (λl=>nb u j (l.cells c (aq d))) (p.trans w),λj=>T V D ⟨p.trans w,bD d G (yb u j)⟩⟩⟩
 have A:=df V G;refine(Bt (cR.ext p m) A C K).mono ?_;rintro _ D ⟨U,rfl,I,w⟩;have Q:=I.len;rw[oE]at Q;refine⟨U,rfl,dW (n:=h.length) V (λi s=>J D s/\∀(a:Nat)(c:bN),a<i->h[a]? =some c->0<c.aQ->eA h a<=c.aQ) ⟨J.az _,λa c t=>absurd t (eY _)⟩ ?_⟩;rintro i L X ν Y ⟨x,H⟩ M;have v:=(p.trans w).trans x;refine dit (λj=>?_) λj=>?_
 .let⟨c,d⟩:=cK h i;let⟨e,B,g1,g2,E⟩:=(cR.ext v m).aE d;have il:(0<c.aQ->eA h i<=c.aQ)->∀(a:Nat)(o:bN),a<i+1->h[a]? =some o->0<o.aQ->eA h a<=o.aQ:=λP a o t hd=>by
   rcases aW a i with F|F
   .exact H a o F hd
   .have:a=i:=V;subst this;rw[d]at hd;simp at hd;subst hd;exact P
  refine⟨V,V,c.aQ,by simpa using g1,λy=>?_,λy=>M V L ⟨x,il λz=>by simp at y;omega⟩⟩;have N:=(I.ext x).aE (k:=i) (uY (f:=eA h) (show i<h.length by omega));refine⟨V,V,c.aQ,by simpa using g1,V,V,eA h i,by simpa using N,λz=>bW (λl=>?_) v,λz=>M V L ⟨x,il λ_=>by simp at z;omega⟩⟩;have:=l.eA i c d (by simpa using y);simp at z;omega
 .refine(GQ (cR.ext v m) A C K).then λb y u o=>⟨b,rfl,eV ?_ (v.trans o)⟩;rw[u];exact⟨λt=>⟨R,A,λa c d r=>H a c (oh (av d)) d r,t⟩,λl=>l.MD⟩
end
section
variable{m:E}{f:aX}
structure gH(m:E)(aT hp fr:O)(s:St):Prop where
 aT:ap m aT s.aT
 heap:cR m hp s.heap
 an:iI m fr s.an
def gH.ext{m d:E}{aT c b:O}{s:St}(h:gH m aT c b s)(a:J m d):gH d aT c b s:=⟨h.aT.ext a,cR.ext a h.heap,iI.ext a h.an⟩
def So(f:aX):Prop:=(∀w∈f.ak,zD w)/\(∀w∈f.aR,zD w)/\(∀w∈f.aZ,zD w)
structure zC(s:St):Prop where
 bz:zD s.bz
 heap:Sp s.heap
 an:∀f∈s.an,So f
 lh:s.heap.length<=10000000
 lf:s.an.length<=10000000
 lr:∀f∈s.an,f.ak.length<=10000000/\f.aR.length<=10000000/\f.aZ.length<=10000000
def Nm(s:St)(aT b a:O):Value:=.agg #[vi s.cx,vi s.value,vi s.bz,vi s.dX,O.v aT,O.v b,O.v a]
def Ev{f:O}{l:List Int}(c:ap m f l):dw cp 61 [O.v f] m (∀a∈l,gR a):=by
 apply yR;have s:=c.len;have t:=c.gY;refine dW (n:=l.length) V (λk b=>J m b/\∀a∈l.take k,gR a) ⟨J.az _,aL⟩ ?_;rintro k u I μ r ⟨a,g⟩ q
 refine dit (λj=>?_) λj=>?_
 .let⟨w,d⟩:=cK l k;exact⟨V,V,w,by simpa using(c.ext a).aE d,(aY _ _ _ _).then λi p e h=>⟨i,rfl,λb=>bW (λo=>nb e b (o w (aq d))) (a.trans h),λb=>q V p ⟨a.trans h,bD d g (yb e b)⟩⟩⟩
 .exact iV (df V g) a
def Rw(h:List bN)(w o:Int):Prop:=(gR w\/1000<=w)/\(0<=o/\o<=999999)/\(0<o->fW h w)
def Hm{x z o aa:O}{h:List bN}(hh:cR m x h)(C:ap m z f.ak)(R:ap m o f.aR)(ad:f.aR.length=f.ak.length)(ab:So f)(Y A Z:Int):
 dw cp 118 [O.v x,.agg #[vi Y,vi A,vi Z,O.v z,O.v o,O.v aa]] m (HI h f):=by
 apply BL
 simp -zeta only[aC,aB]
 intro b
 have p:J m b:=(J.az m).aK _
 have s1:b.size=m.size+1:=by simp[b]
 clear_value b
 have v:∀A∈[m.size],A<b.size:=bF
 have ah:=C.len
 have ag:=R.len
 have ae:=C.gY
 refine dW (n:=f.ak.length) V (λk m'=>J b m'/\∀(j:Nat)(w o:Int),j<k->f.ak[j]? =some w->f.aR[j]? =some o->Rw h w o) ⟨J.az _,λj w o P=>absurd P (eY _)⟩ ?_
 rintro k U K μ Q ⟨I,S⟩ W
 refine dit (λh1=>?_) λh1=>?_
 .let⟨w,i⟩:=cK f.ak k
  let⟨r,B⟩:=cK f.aR k
  have gw:∀{M:E},J b M->af M z.D (z.off+Int.toNat (k:Int)*1)=some (vi w):=λD=>by simpa using(C.ext (p.trans D)).aE i
  have L:∀{M:E},J b M->af M o.D (o.off+Int.toNat (k:Int)*1)=some (vi r):=λD=>by simpa using(R.ext (p.trans D)).aE B
  have il:Rw h w r->∀(j:Nat)(w o:Int),j<k+1->f.ak[j]? =some w->f.aR[j]? =some o->Rw h w o:=λa j w' G P y q=>by
   rcases aW j k with N|N
   .exact S j w' G N y q
   .have:j=k:=V;subst this;rw[i]at y;rw[B]at q;simp at y q;subst y;subst q;exact a
  have F:¬Rw h w r->¬HI h f:=λa Q=>a (Q.dB k w r i B)
  have jV:∀{M:E},J b M->(gR w\/1000<=w)->(0:Int)<=(k:Int)/\(k:Int)<(o.len:Int)/\∃X:Int,af M o.D (o.off+Int.toNat (k:Int)*1)=some (vi X)/\
   aN cp 41 [vi X,vi (0:Int),vi (999999:Int)] M λac l=>eH [m.size] M l/\∃H:Bool,ac=vb H/\
   ((!H)=true->∃c:Bool,vb false=.bool c/\(c=true<->HI h f)/\J m l)/\
   ((!H)=false->(0:Int)<=(k:Int)/\(k:Int)<(o.len:Int)/\∃g:Int,af l o.D (o.off+Int.toNat (k:Int)*1)=some (vi g)/\
   ((decide (g>(0:Int)))=true->aN cp 130 [O.v x,vi w] l λs d=>eH [m.size] l d/\∃e:Bool,s=vb e/\
    ((!e)=true->∃c:Bool,vb false=.bool c/\(c=true<->HI h f)/\J m d)/\((!e)=false->K (cT ((k:Int)+(1:Int))) d/\μ (cT ((k:Int)+(1:Int))) d<μ k U))/\
   ((decide (g>(0:Int)))=false->K (cT ((k:Int)+(1:Int))) l/\μ (cT ((k:Int)+(1:Int))) l<μ k U)):=λ{M} xM hi=>by
   refine⟨V,V,r,L xM,(aY _ _ _ _).aI xM v λb3 m3 s x3 c=>⟨b3,rfl,λd=>bW (F λa=>nb s d a.2.1) (p.trans c),λd=>?_⟩⟩
   have T:=yb s d
   refine⟨V,V,r,L c,λe=>?_,λe=>W V _ ⟨c,il ⟨hi,T,λx=>by simp at e;omega⟩⟩⟩
   refine(jf (cR.ext (p.trans c) hh) (ab.1 w (aq i))).aI c v λb4 m4 t x4 u=>⟨b4,rfl,λg=>bW (F λa=>nb t g (a.2.2 (by simpa using e))) (p.trans u),λg=>W V _ ⟨u,il ⟨hi,T,λ_=>yb t g⟩⟩⟩
  refine⟨V,V,w,gw I,(aY _ _ _ _).aI I v λb3 m3 s x3 c=>⟨b3,rfl,λd=>?_,λd=>jV c (Or.inl (yb s d))⟩⟩
  refine(dY _ _).aI c v λb4 m4 t x4 u=>⟨b4,rfl,λe=>bW (F λa=>?_) (p.trans u),λe=>jV u (Or.inr (yb t e))⟩
  rcases a.1 with g|g
  .exact nb s d g
  .exact nb t e g
 .exact iV ⟨λj w G i q=>S j w G (oh (av i)) i q⟩ (p.trans I)
def Fe{Q p aT c R:O}{l:cU}{s:St}(I:fC m Q p l)(i:gH m aT c R s)(ah:zC s){k:Nat}(H:s.an[k]? =some f):
 dw cp 63 [.agg #[O.v Q,O.v p],Nm s aT c R,vi k] m (Ky l s.heap (nL s.an k) f):=by
 apply zl
 simp -zeta only[aC,aB]
 intro t b
 have x2:J m b:=((J.az m).aK _).aK _
 have s1:t.size=m.size+1:=by simp[t]
 have s2:b.size=m.size+2:=by simp[b,s1]
 clear_value b
 have au:=i.an.len
 have ax:=i.an.gY
 have az:=av H
 have aJ:=I.cE.len
 have aL:=I.cE.gY
 let⟨an,am,af,hr,Z,he,g0,g1,g2,g3,g4,g5⟩:=(i.ext x2).an.aE H
 have ek:Int.toNat (k:Int)=k:=V
 rw[ek]
 refine⟨V,V,_,g0,_,g1,_,g2,an,g3,am,g4,af,g5,?_⟩
 intro m3 n
 have x4:J b n:=((J.az b).aK _).ah (ad _) _ _
 have s4:n.size=b.size+1:=by simp[n,m3,aw]
 clear_value n
 have hl:∀z∈[b.size,t.size,m.size],z<n.size:=bF
 have M:=x2.trans x4
 rw[aP V V]
 refine(aY _ _ _ _).aI (J.az _) hl λb5 u T x _=>⟨b5,rfl,λA=>bW (λa=>nb T A ⟨a.fw.1,oh a.fw.2⟩) (M.trans x),λA=>?_⟩
 have aj:=yb T A
 have N:=M.trans x
 let⟨v,hq⟩:=cK l.cE f.fw.toNat
 have d:dQ l f.fw=v:=by unfold dQ;rw[hq];rfl
 let⟨pa,pl,pc,aG,aK,aa,k0,k1,k2,k3,k4⟩:=(I.ext N).cE.aE hq
 have aH:=aa.len
 have aI:=aa.gY
 refine⟨V,V,pa,k0,pl,k1,_,k2,_,k3,pc,k4,?_⟩
 intro m6 o
 have x7:J u o:=((J.az u).aK _).ah (ad _) _ _
 have s7:o.size=u.size+1:=by simp[o,m6,aw]
 have z5:=x.size
 clear_value o
 have K:∀z∈[u.size,b.size,t.size,m.size],z<o.size:=bF
 have P:=N.trans x7
 rw[aP V V]
 refine(aY _ _ _ _).aI (J.az _) K λb8 m8 U y _=>⟨b8,rfl,λB=>bW (λa=>nb U B ⟨a.pc.1,by have:=a.pc.2;rw[d]at this;omega⟩) (P.trans y),λB=>?_⟩
 have ak:=yb U B
 have e:=P.trans y
 have aN:=hr.len
 have aA:=Z.len
 have ar:=he.len
 refine⟨λC=>bW (λa=>by have:=a.lr;rw[d]at this;simp at C;omega) e,λC=>?_⟩
 have q1:(f.ak.length:Int)=v.ak:=by simp at C;omega
 refine⟨λD=>bW (λa=>by have:=a.lo;rw[d]at this;simp at D;omega) e,λD=>?_⟩
 have q2:(f.aR.length:Int)=v.ak:=by simp at D;omega
 refine⟨λE=>bW (λa=>by have:=a.lh;rw[d]at this;simp at E;omega) e,λE=>?_⟩
 have q3:(f.aZ.length:Int)=v.ak:=by simp at E;omega
 have ai:=ah.an f (aq H)
 have ac:=((x4.trans x).trans x7).trans y
 refine(Hm (i.ext e).heap (hr.ext ac) (Z.ext ac) V ai _ _ _).aI y K λb9 m9 W x9 ao=>⟨b9,rfl,λF=>bW (λa=>nb W F a.ak) (e.trans x9),λF=>?_⟩
 have al:=yb W F
 have q:=e.trans x9
 have mk:(nL s.an k=none->f.dst=0)->(∀p,nL s.an k=some p->0<=f.dst/\f.dst<p.aR.length/\aE p.aR f.dst=0)->Ky l s.heap (nL s.an k) f:=λha hb=>
  ⟨⟨aj.1,V⟩,⟨ak.1,by rw[d];omega⟩,by rw[d];exact q1,by rw[d];exact q2,by rw[d];exact q3,al,ha,hb⟩
 refine⟨λG=>eV ?_ q,λG=>?_⟩
 .have g:k=0:=by simp at G;omega
  subst g
  refine⟨λh=>mk (λ_=>by simpa using h) (λp c=>by simp[nL]at c),λa=>by simpa using a.first rfl⟩
 .have ay:k≠0:=by simp at G;omega
  obtain⟨j,rfl⟩:∃j,k=j+1:=⟨k -1,V⟩
  have ej:cT (((j+1:Nat):Int) -1)=(j:Int):=by rw[aP V V];omega
  have ag:Int.toNat (j:Int)=j:=V
  rw[ej,ag]
  let⟨g,X⟩:=cK s.an j
  have r:nL s.an (j+1)=some g:=X
  obtain⟨r',o',e',aM,L,ap,_,_,_,_,y4,_⟩:=(i.ext q).an.aE X
  have aD:=L.len
  have aF:=L.gY
  refine⟨V,V,o',y4,?_⟩
  rw[aP V V]
  refine(aY _ _ _ _).aI ao K λae aO S w _=>⟨ae,rfl,λh=>?_,λh=>bW (λa=>?_) (q.trans w)⟩
  .have hd:=S.1 h
   let⟨ab,hv⟩:=cK g.aR f.dst.toNat
   have ev:aE g.aR f.dst=ab:=HL hv
   refine⟨V,V,o',w.af y4,V,V,ab,(L.ext w).aE hv,eV ?_ (q.trans w)⟩
   refine⟨λh9=>mk (λY=>by rw[r]at Y;cases Y) (λp c=>by rw[r]at c;simp at c;subst c;exact⟨hd.1,V,by rw[ev];simpa using h9⟩),λa=>?_⟩
   have:=(a.next g r).2.2
   rw[ev]at this;simpa using this
  .have:=a.next g r
   exact fb S h ⟨this.1,V⟩
end
section
variable{i:Nat}{f:aX}
def Ld{b:List aX}(c:b[i]? =some f)(a:Nat):dI (b.take (i+1)) a=dI (b.take i) a+eD f.aZ a:=by
 rw[aU c,eL,jg]
def NP{b:List aX}(c:b[i]? =some f)(a:Nat):fD (b.take (i+1)) a=fD (b.take i) a+dg f.ak f.aR a:=by
 rw[aU c,fZ,kZ]
def tD:∀{ak aR:List Int}{a:Nat}{w o:Int},ak[a]? =some w->aR[a]? =some o->∀b,dg (ak.take (a+1)) (aR.take (a+1)) b=dg (ak.take a) (aR.take a) b+(if w=1000+(b:Int)then o else 0)
 |[],_,_,_,_,h,_,_=>by simp at h
 |_::_,[],_,_,_,_,h,_=>by simp at h
 |r::f,p::e,0,w,o,c,d,b=>by simp at c d;subst c;subst d;simp[dg]
 |r::f,p::e,a+1,w,o,c,d,b=>by
  have:=tD (ak:=f) (aR:=e) (a:=a) (by simpa using c) (by simpa using d) b;simp only[Np,dg]at this⊢;omega
def Lc:∀{a:List aX}{n:Nat},(∀f∈a,f.aZ.length<=n)->∀b,dI a b<=a.length*n
 |[],n,_,b=>by simp[dI]
 |f::a,n,h,b=>by
  have c:=Lc (a:=a) λg d=>h g (by simp[d]);have e:=c b;have i:=kK f.aZ b;have j:=h f aL;simp only[dI,ba];have:((a.length+1:Nat):Int)*n=a.length*n+n:=by push_cast;rw[Zj];omega
  omega
def Gp:∀{ak aR:List Int}{n:Int},0<=n->(∀o∈aR,0<=o/\o<=n)->∀a,0<=dg ak aR a/\dg ak aR a<=aR.length*n
 |[],aR,n,b,h,a=>by simp[dg];exact Int.mul_nonneg V b
 |_::_,[],n,b,h,a=>by simp[dg]
 |r::e,o::c,n,b,h,a=>by
  have f:=Gp (ak:=e) (aR:=c) b (λx d=>h x (by simp[d])) a;have d:=h o aL;have:((c.length+1:Nat):Int)*n=c.length*n+n:=by push_cast;rw[Zj];omega
  simp only[dg,ba];split<;>omega
def Kr:∀{a:List aX}{n:Nat}{k:Int},0<=k->(∀f∈a,f.aR.length<=n/\∀o∈f.aR,0<=o/\o<=k)->∀b,0<=fD a b/\fD a b<=a.length*(n*k)
 |[],n,k,_,_,b=>by simp[fD]
 |f::a,n,k,c,h,b=>by
  have e:=Kr (a:=a) c (λg d=>h g (by simp[d])) b;let⟨j,d⟩:=h f aL;have g:=Gp (ak:=f.ak) c d b;have i:(f.aR.length:Int)*k<=n*k:=Int.mul_le_mul_of_nonneg_right V c;have:((a.length+1:Nat):Int)*(n*k)=a.length*(n*k)+n*k:=by push_cast;rw[Zj];omega
  simp only[fD,ba];omega
section
variable{m:E}{d p aT a b:O}{c:cU}{s:St}
def IE(H:gH m aT a b s)(Q:zC s)(hd:s.an.length<=41):dw cp 64 [Nm s aT a b] m (Ol s.heap s.an):=by
 apply CV;simp -zeta only[aC,aB];intro j;have y:J m j:=(J.az m).aK _;have s1:j.size=m.size+1:=by simp[j]
 clear_value j;have hl:=H.heap.len;have aw:=Q.lh;have ar:=H.an.len;have en:Int.toNat (a.len:Int)=s.heap.length:=V;rw[en];refine⟨V,V,V,V,?_⟩;intro W;have x2:J j W:=(J.az j).aK _;have B2:cJ W j.size aA ((sZ s.heap.length (λ_=>0)).map Ce.i):=Mo j _;clear_value W;have r:∀{N M':E},J j N->J N M'->eH [m.size] N M':=λP u=>u.dy λz r=>P.lt (by simp at r;omega);have ac:=λf A=>(Q.lr f A).2.2;refine dW (n:=s.an.length) V (λi x=>J j x/\cJ x j.size aA ((sZ s.heap.length (λc=>dI (s.an.take i) c)).map Ce.i)/\∀f∈s.an.take i,∀w∈f.aZ,w=0\/(1000<=w/\ix w<s.heap.length)) ⟨x2,by simpa[dI]using B2,aL⟩ ?_;rintro i m3 am μ hi ⟨D,K,T⟩ al
 refine dit (λP=>?_) λP=>?_
 .let⟨f,A⟩:=cK s.an i;have R:=aq A;have au:=ac f R;have ag:(∃w∈f.aZ,¬(w=0\/(1000<=w/\ix w<s.heap.length)))->¬Ol s.heap s.an:=λ⟨w,h,e⟩ v=>e (v.cO f R w h);refine dW (n:=f.aZ.length) V (λk x=>J j x/\cJ x j.size aA ((sZ s.heap.length (λc=>dI (s.an.take i) c+eD (f.aZ.take k) c)).map Ce.i)/\∀w∈f.aZ.take k,w=0\/(1000<=w/\ix w<s.heap.length)) ⟨D,by simpa[eD]using K,aL⟩ ?_;rintro k o M ν v ⟨F,G,t⟩ C;obtain⟨az,ay,q,_,_,he,_,_,_,_,_,g5⟩:=(H.ext (y.trans F)).an.aE A;have ap:=he.len;refine⟨V,V,q,by simpa using g5,dit (λu=>?_) λu=>?_⟩
  .let⟨w,h⟩:=cK f.aZ k;have U:=aq h;have ak:=(Q.an f R).2.2 w U;refine⟨V,V,q,by simpa using g5,V,V,w,by simpa using he.aE h,λp=>?_,λp=>?_⟩
   .have I:w≠0:=by simpa using p
    refine(dY _ _).mono ?_;rintro _ m5 ⟨b5,rfl,aa,Y⟩;have X:=F.trans Y;refine⟨r F Y,b5,rfl,λl=>bW (ag ⟨w,U,λe=>?_⟩) (y.trans X),λl=>?_⟩
    .rcases e with e|e
     .exact I e
     .exact nb aa l e.1
    have ah:=yb aa l;have an:=ak.2;have e1:cT (w -1000)=(ix w:Nat):=by unfold ix;rw[aP V V];omega
    have e2:Int.toNat ((ix w:Nat):Int)=ix w:=V;rw[e1,e2,show cT ((a.len:Int) -1)=(a.len:Int) -1 from aP V V];refine(aY _ _ _ _).mono ?_;rintro _ m6 ⟨b6,rfl,ab,Z⟩;have ai:=X.trans Z;refine⟨r X Z,b6,rfl,λB=>bW (ag ⟨w,U,λe=>?_⟩) (y.trans ai),λB=>?_⟩
    .rcases e with e|e
     .exact I e
     .exact nb ab B ⟨V,V⟩
    have ax:=yb ab B;have S:ix w<s.heap.length:=V;have L:=G.ext (Y.trans Z);simp only[O.gK,O.jI,O.nm,bV,eS];have q1:=Lc (a:=s.an.take i) (n:=10000000) (λaj hg=>ac aj (dC hg)) (ix w);have q2:=kK (f.aZ.take k) (ix w);have q3:=vS (s.an.take i) (ix w);have q4:=iL (f.aZ.take k) (ix w);have q5:(s.an.take i).length<=41:=bF;have q6:(f.aZ.take k).length<=10000000:=bF;refine⟨V,V,_,tT L S,V,V,N4 L S,?_⟩;rw[show cT (dI (s.an.take i) (ix w)+eD (f.aZ.take k) (ix w)+1)=dI (s.an.take i) (ix w)+eD (f.aZ.take k) (ix w)+1 from aP V V];have B7:=Jd L (ix w) (dI (s.an.take i) (ix w)+eD (f.aZ.take k) (ix w)+1);rw[fE (g:=λc=>dI (s.an.take i) c+eD (f.aZ.take (k+1)) c)]at B7
    .refine⟨λz r=>bd _ _ _ _ (by simp at r;omega),C V _ ⟨ai.ah (ad _) _ _,B7,bD h t (Or.inr ⟨ah,S⟩)⟩⟩
    .intro z r;rw[rD h];by_cases q:z=ix w
     .subst q;rw[ao rfl,ao (iu ah).symm];omega
     .rw[ae q,ae (λaj=>q (by rw[aj,lL]))];omega
   .have I:w=0:=by simpa using p
    refine C V o ⟨F,?_,bD h t (Or.inl I)⟩;rw[fE (g:=λc=>dI (s.an.take i) c+eD (f.aZ.take k) c)]
    .exact G
    .intro z r;rw[rD h,ae V];omega
  .have I:f.aZ.take k=f.aZ:=bY V;rw[I]at G t;refine al V o ⟨F,?_,bD A T t⟩
   rw[fE (g:=λc=>dI (s.an.take i) c+eD f.aZ c)]
   .exact G
   .intro z r;exact Ld A z
 .have I:s.an.take i=s.an:=bY V;rw[I]at K T;simp only[O.gK,O.jI,O.nm,bV,eS];refine dW (n:=s.heap.length) V (λk x=>x=m3/\∀(c:Nat)(h:bN),c<k->s.heap[c]? =some h->(h.aQ<0->dI s.an c=1)/\(0<=h.aQ->dI s.an c=0)) ⟨rfl,λc h S=>absurd S (eY _)⟩ ?_;rintro k o M ν v ⟨rfl,t⟩ C;refine⟨λu=>?_,λu=>?_⟩
  .have U:k<s.heap.length:=by first|omega|(simp at u;omega)
   let⟨h,q⟩:=dD U;obtain⟨f,_,g1,_,_⟩:=(H.ext (y.trans D)).heap.aE q;have X:Int.toNat (k:Int)=k:=V;rw[X];have L:=tT K U;have il:(h.aQ<0->dI s.an k=1)/\(0<=h.aQ->dI s.an k=0)->∀(c:Nat)(h:bN),c<k+1->s.heap[c]? =some h->(h.aQ<0->dI s.an c=1)/\(0<=h.aQ->dI s.an c=0):=λe c d S hd=>by
    rcases aW c k with R|R
    .exact t c d R hd
    .have:c=k:=V;subst this;rw[q]at hd;simp at hd;subst hd;exact e
   have MS:(h.aQ<0->dI s.an k=1)->(0:Int)<=(k:Int)/\(k:Int)<(a.len:Int)/\∃w:Int,af o a.D (a.off+k*3)=some (vi w)/\
    ((decide (w>=(0:Int)))=true->(0:Int)<=(k:Int)/\(k:Int)<(s.heap.length:Int)/\∃F:Int,af o j.size k=some (vi F)/\
    ((F !=(0:Int))=true->∃G:Bool,vb false=.bool G/\(G=true<->Ol s.heap s.an)/\J m o)/\((F !=(0:Int))=false->M (cT ((k:Int)+1)) o/\ν (cT ((k:Int)+1)) o<ν k o))/\
    ((decide (w>=(0:Int)))=false->M (cT ((k:Int)+1)) o/\ν (cT ((k:Int)+1)) o<ν k o):=λe=>by
    refine⟨V,V,_,g1,λp=>⟨V,V,_,L,λl=>bW (λv=>?_) (y.trans D),λl=>C V _ ⟨rfl,il ⟨e,λ_=>by simpa using l⟩⟩⟩,λp=>C V _ ⟨rfl,il ⟨e,λB=>by simp at p;omega⟩⟩⟩
    have:=v.nB k h q (by simpa using p)
    simp at l;exact l this
   refine⟨V,V,_,g1,λp=>⟨V,V,_,L,λl=>bW (λv=>?_) (y.trans D),λl=>MS λ_=>by simpa using l⟩,λp=>MS λB=>by simp at p;omega⟩;have:=v.lB k h q (by simpa using p);simp at l;exact l this
  .have l:s.heap.length<=k:=by first|omega|(simp at u;omega)
   exact iV ⟨T,λc h q e=>(t c h (oh (av q)) q).1 e,λc h q e=>(t c h (oh (av q)) q).2 e⟩ (y.trans D)
end
end
section
def Pz(a:Int):(a==(0:Int))=decide (a=0):=by by_cases h:a=0<;>simp[h]
def FE(a b:Int):(!((a==(0:Int))==(b==(0:Int))))=false<->(a=0<->b=0):=by
 rw[Pz,Pz];by_cases c:a=0<;>by_cases d:b=0<;>simp[c,d]
section
variable{m:E}{d p aT c b:O}{a:cU}{s:St}
structure Tf(h:List bN)(fs:List aX):Prop where
 len:∀f∈fs,f.aR.length=f.ak.length
 ak:∀f∈fs,HI h f
def Tf.aR{h:List bN}{a:List aX}(H:Tf h a){f:aX}(b:f∈a):∀o∈f.aR,0<=o/\o<=999999:=λo d=>by
 let⟨k,c⟩:=List.mem_iff_getElem?.1 d;let⟨w,e⟩:=cK f.ak k (OS (av c) (H.len f b));exact((H.ak f b).dB k w o e c).2.1
def IV(y:gH m aT c b s)(C:zC s)(hd:s.an.length<=41)(H:Tf s.heap s.an):Tu 120 [Nm s aT c b] m (sZ s.heap.length (fD s.an)):=by
 apply Df;simp -zeta only[aC,aB];intro d;have o:J m d:=(J.az m).aK _;have s1:d.size=m.size+1:=by simp[d]
 clear_value d;have hl:=y.heap.len;have aD:=C.lh;have ay:=y.an.len;have en:Int.toNat (c.len:Int)=s.heap.length:=V;rw[en];refine⟨V,V,V,V,?_⟩;intro A;have x2:J d A:=(J.az d).aK _;have B2:cJ A d.size aA ((sZ s.heap.length (λ_=>0)).map Ce.i):=Mo d _;have s2:A.size=d.size+1:=by simp[A]
 clear_value A;refine dW (n:=s.an.length) V (λi j=>J d j/\d.size<j.size/\cJ j d.size aA ((sZ s.heap.length (λe=>fD (s.an.take i) e)).map Ce.i)) ⟨x2,V,by simpa[fD]using B2⟩ ?_;rintro i S ar μ hi ⟨B,z3,I⟩ am
 refine dit (λh1=>?_) λh1=>?_
 .let⟨f,v⟩:=cK s.an i;have x:=aq v;have aE:=C.lr f x;let⟨ag,G,u,hr,P,he,g0,g1,g2,Y,Z,g5⟩:=(y.ext (o.trans B)).an.aE v;have aI:=hr.len;have aG:=P.len;have az:=H.len f x;have ei:Int.toNat (i:Int)=i:=V;rw[ei];refine⟨V,V,_,g0,_,g1,_,g2,ag,Y,G,Z,u,g5,?_⟩;intro m4 l;have x5:J S l:=((J.az S).aK _).ah (ad _) _ _;have s5:l.size=S.size+1:=by simp[l,m4,aw]
  clear_value l;have an:=B.trans x5;refine dW (n:=f.aR.length) V (λa j=>J d j/\l.size<=j.size/\(∀h,h<l.size->h≠d.size->j[h]? =l[h]?)/\cJ j d.size aA ((sZ s.heap.length (λe=>fD (s.an.take i) e+dg (f.ak.take a) (f.aR.take a) e)).map Ce.i)) ⟨an,ad _,λ_ _ _=>rfl,by simpa[dg]using(I.ext x5)⟩ ?_;rintro a F au ν hk ⟨t,z6,X,p⟩ ac;refine dit (λh2=>?_) λh2=>?_
  .let⟨w,z⟩:=cK f.ak a;let⟨q,E⟩:=cK f.aR a;have R:=(H.ak f x).dB a w q z E;obtain⟨r',o',e',aH,aF,ax,_,_,_,_,y4,_⟩:=(y.ext (o.trans t)).an.aE v;have lb:∀{sl:O}{ab:List Int},ap m sl ab->ab≠[]->sl.D<m.size:=λah D=>iO ah D;obtain⟨U,T,e0,aj,ai,_,_,_,_,w3,w4,_⟩:=y.an.aE v;have er:U=ag:=by have:=(o.trans B).af w3;rw[Y]at this;exact(O.BR.1 (jS this)).symm
   have eo:T=G:=by have:=(o.trans B).af w4;rw[Z]at this;exact(O.BR.1 (jS this)).symm
   subst er;subst eo;have gq:af F T.D (T.off+Int.toNat (a:Int)*1)=some (vi q):=by simpa using(ai.ext (o.trans t)).aE E
   have gw:af F U.D (U.off+Int.toNat (a:Int)*1)=some (vi w):=by simpa using(aj.ext (o.trans t)).aE z
   refine⟨V,V,q,gq,λM=>?_,λM=>?_⟩
   .have Q:0<q:=by simpa using M
    have N:=R.2.2 Q;have aa:=av (bS N).1;have K:cT (w -1000)=(ix w:Nat):=by have:=N.1;have:=((C.an f x).1 w (aq z)).2;unfold ix;rw[aP V V];omega
    have L:Int.toNat ((ix w:Nat):Int)=ix w:=V;refine⟨V,V,w,gw,V,V,w,gw,?_⟩;rw[K,L];simp only[O.gK,O.jI,O.nm,bV,eS];have q1:=Kr (a:=s.an.take i) (n:=10000000) (k:=999999) V (λW r=>⟨(C.lr W (dC r)).2.1,H.aR (dC r)⟩) (ix w);have q2:=Gp (ak:=f.ak.take a) (aR:=f.aR.take a) (n:=999999) V (λG P=>H.aR x G (dC P)) (ix w);have q5:(s.an.take i).length<=41:=bF;have q6:(f.aR.take a).length<=10000000:=bF;have q7:=R.2.1;refine⟨V,V,_,tT p aa,V,V,q,by simpa using gq,V,V,N4 p aa,?_⟩;rw[show cT (fD (s.an.take i) (ix w)+dg (f.ak.take a) (f.aR.take a) (ix w)+q)=fD (s.an.take i) (ix w)+dg (f.ak.take a) (f.aR.take a) (ix w)+q from aP V V];have W:=Jd p (ix w) (fD (s.an.take i) (ix w)+dg (f.ak.take a) (f.aR.take a) (ix w)+q);rw[fE (g:=λe=>fD (s.an.take i) e+dg (f.ak.take (a+1)) (f.aR.take (a+1)) e)]at W
    .refine⟨λh r=>bd _ _ _ _ (by simp at r;omega),ac V _ ⟨t.ah (ad _) _ _,by rw[aw];exact z6,λh r D=>by rw[bd _ _ _ _ D];exact X h r D,W⟩⟩
    .intro h r;rw[tD z E];by_cases u:h=ix w
     .subst u;rw[ao rfl,ao (iu N.1).symm];omega
     .rw[ae u,ae (λal=>u (by rw[al,lL]))];omega
   .have Q:q=0:=by have:=R.2.1.1;simp at M;omega
    refine ac V F ⟨t,z6,X,?_⟩;rw[fE (g:=λe=>fD (s.an.take i) e+dg (f.ak.take a) (f.aR.take a) e)]
    .exact p
    .intro h r;rw[tD z E,Q];split<;>omega
  .have K:f.ak.take a=f.ak:=bY V;have L:f.aR.take a=f.aR:=bY V;rw[K,L]at p;refine am V F ⟨t,V,?_⟩
   rw[fE (g:=λe=>fD (s.an.take i) e+dg f.ak f.aR e)]
   .exact p
   .intro h r;exact NP v h
 .have a:s.an.take i=s.an:=bY V;rw[a]at I;exact⟨_,rfl,Pa I V,o.trans B⟩
def CQ(j:gH m aT c b s)(i:zC s)(hd:s.an.length<=41)(H:Tf s.heap s.an)(h:∀a∈s.heap,oI s.heap a):
 dw cp 65 [Nm s aT c b] m (∀(e:Nat)(a:bN),s.heap[e]? =some a->0<a.aQ->a.aQ=eA s.heap e+fD s.an e):=by
 apply xE
 simp -zeta only[aC,aB]
 intro l
 have v:J m l:=(J.az m).aK _
 have Z:l.size=m.size+1:=by simp[l]
 clear_value l
 have R:=j.heap.len
 have S:=i.lh
 refine(Bt (j.ext v).heap h i.heap V).mono ?_
 rintro _ T ⟨O,rfl,C,o⟩
 have z2:=o.size
 refine⟨o.dy bF,O,rfl,(IV (j.ext (v.trans o)) i hd H).mono ?_⟩
 rintro _ M ⟨N,rfl,A,w⟩
 have K:=C.len
 have I:=A.len
 rw[oE]at K I
 have p:=(v.trans o).trans w
 refine⟨w.dy bF,N,rfl,?_⟩
 refine dW (n:=s.heap.length) V (λf L=>L=M/\∀(e:Nat)(a:bN),e<f->s.heap[e]? =some a->0<a.aQ->a.aQ=eA s.heap e+fD s.an e) ⟨rfl,λe a y=>absurd y (eY _)⟩ ?_
 rintro f U P μ z ⟨rfl,B⟩ D
 refine dit (λF=>?_) λF=>?_
 .have t:f<s.heap.length:=V
  let⟨a,r⟩:=dD t
  obtain⟨Q,_,g1,_,_⟩:=(j.ext p).heap.aE r
  have E:Int.toNat (f:Int)=f:=V
  rw[E]
  have il:(0<a.aQ->a.aQ=eA s.heap f+fD s.an f)->∀(e:Nat)(a:bN),e<f+1->s.heap[e]? =some a->0<a.aQ->a.aQ=eA s.heap e+fD s.an e:=λu e d y hd=>by
   rcases aW e f with x|x
   .exact B e d x hd
   .have:e=f:=V;subst this;rw[r]at hd;simp at hd;subst hd;exact u
  have W:=Cf s.heap f λa G=>(h a G).fl
  have X:=rf s.heap f
  have Y:=Kr (a:=s.an) (n:=10000000) (k:=999999) V (λq g=>⟨(i.lr q g).2.1,H.aR g⟩) f
  refine⟨V,V,_,g1,λq=>?_,λq=>D V _ ⟨rfl,il λg=>by simp at q;omega⟩⟩
  refine⟨V,V,_,g1,V,V,_,(C.ext w).aE (uY t),V,V,_,A.aE (uY t),?_⟩
  rw[show cT (eA s.heap f+fD s.an f)=eA s.heap f+fD s.an f from aP V V]
  refine⟨λg=>bW (λz=>?_) p,λg=>D V _ ⟨rfl,il λ_=>by simpa using g⟩⟩
  have:=z f a r (by simpa using q)
  simp at g;exact g this
 .exact iV (λe a h u=>B e a (oh (av h)) h u) p
def Fi(ae:fC m d p a)(x:gH m aT c b s)(G:zC s):dw cp 34 [.agg #[O.v d,O.v p],Nm s aT c b] m (cX a s):=by
 apply zp;simp -zeta only[aC,aB];intro H l;have o:J m l:=((J.az m).aK _).aK _;have s1:H.size=m.size+1:=by simp[H]
 have s2:l.size=m.size+2:=by simp[l,s1]
 clear_value l;have k:∀af∈[H.size,m.size],af<l.size:=bF;have ak:=x.an.len;have h:∀{M:E},J l M->¬Nt a s->∃q:Bool,vb false=.bool q/\(q=true<->cX a s)/\J m M:=λU hn=>bW (λe=>hn (Oy e)) (o.trans U);refine(tR (ae.ext o)).aI (J.az _) k λb3 m3 Z x3 _=>⟨b3,rfl,λL=>h x3 λe=>nb Z L e.fe,λL=>?_⟩;have hi:=yb Z L;refine(aY _ _ _ _).aI x3 k λb4 m4 aa ay X=>⟨b4,rfl,λN=>h X λe=>nb aa N e.cx,λN=>?_⟩;have an:=yb aa N;have ac:(s.an=[])<->((b.len:Int)=0):=by rw[ak];simp
 refine⟨λP=>h X λe=>?_,λP=>?_⟩
 .have:=e.done;rw[ac,<-FE]at this;rw[this]at P;cases P
 have aj:s.cx=0<->s.an=[]:=by rw[ac];exact(FE _ _).1 P
 refine⟨λM=>J l M/\gR s.value/\(s.value≠0->s.cx=0)/\(0<=s.dX/\s.dX<=40)/\(0<=s.bz/\s.bz<=s.dX),?_,?_⟩
 .refine(aY _ _ _ _).aI X k λb5 W u y w=>⟨b5,rfl,λr=>h w λe=>nb u r e.value,λr=>?_⟩;have tail:(s.value≠0->s.cx=0)->aN cp 41 [vi s.dX,vi (0:Int),vi (40:Int)] W λv f=>eH [H.size,m.size] W f/\∃i:Bool,v=vb i/\
   ((!i)=true->∃q:Bool,vb false=.bool q/\(q=true<->cX a s)/\J m f)/\((!i)=false->aN cp 41 [vi s.bz,vi (0:Int),vi s.dX] f λt g=>
   eH [H.size,m.size] f g/\∃j:Bool,t=vb j/\((!j)=true->∃q:Bool,vb false=.bool q/\(q=true<->cX a s)/\J m g)/\
   ((!j)=false->J l g/\gR s.value/\(s.value≠0->s.cx=0)/\(0<=s.dX/\s.dX<=40)/\(0<=s.bz/\s.bz<=s.dX))):=λT=>
   (aY _ _ _ _).aI w k λb6 m6 C aq z=>⟨b6,rfl,λg=>h z λe=>nb C g e.dX,λg=>
    (aY _ _ _ _).aI z k λR m7 D ar I=>⟨R,rfl,λB=>h I λe=>nb D B e.bz,λB=>⟨I,(yb u r),T,yb C g,yb D B⟩⟩⟩
  refine⟨λt=>⟨λg=>h w λe=>?_,λg=>tail λ_=>by simpa using g⟩,λt=>tail λg=>absurd (by simpa using t) g⟩;have:=e.tY (by simpa using t);simp at g;exact g this
 .rintro W ⟨w,hv,T,al,ah⟩;rw[aP V V];refine⟨λr=>h w λe=>by have:=e.depth;simp at r;omega,λr=>?_⟩;have ai:(s.an.length:Int)<=s.bz+1:=by simp at r;omega
  have ab:s.an.length<=41:=V;refine(Ev (x.ext (o.trans w)).aT).aI w k λb6 m6 C aq z=>⟨b6,rfl,λt=>h z λe=>nb C t e.aT,λt=>?_⟩;have am:=yb C t;refine(Hk (x.ext (o.trans z)).heap G.heap (oh G.lh)).aI z k λR m7 D ar I=>⟨R,rfl,λg=>h I λe=>nb D g e.heap,λg=>?_⟩;have ad:=yb D g;refine dW (n:=s.an.length) V (λy m'=>J l m'/\∀(j:Nat)(f:aX),j<y->s.an[j]? =some f->Ky a s.heap (nL s.an j) f) ⟨I,λj f v=>absurd v (eY _)⟩ ?_;rintro y m8 aw μ e ⟨K,hq⟩ ao
  refine dit (λB=>?_) λB=>?_
  .let⟨f,i⟩:=cK s.an y;refine(Fe (ae.ext (o.trans K)) (x.ext (o.trans K)) G i).aI K k λS m9 F au A=>⟨S,rfl,λu=>h A λe=>nb F u (e.an y f i),λu=>ao V _ ⟨A,λj ag v Q=>?_⟩⟩;rcases aW j y with Y|Y
   .exact hq j ag Y Q
   .have:j=y:=V;subst this;rw[i]at Q;simp at Q;subst Q;exact yb F u
  .have Q:∀(j:Nat)(f:aX),s.an[j]? =some f->Ky a s.heap (nL s.an j) f:=λj f i=>hq j f (oh (av i)) i;have Y:Tf s.heap s.an:=⟨λf i=>by
    let⟨j,v⟩:=wg i;have L:=(Q j f v).lr;have N:=(Q j f v).lo;omega,λf i=>let⟨j,v⟩:=wg i;(Q j f v).ak⟩
   refine(IE (x.ext (o.trans K)) G ab).aI K k λS m9 F au A=>⟨S,rfl,λu=>?_,λu=>h A λe=>fb F u e.aZ⟩;refine(CQ (x.ext (o.trans A)) G ab Y ad.cells).aI A k λv ax ag az ap=>⟨v,rfl,eV ?_ (o.trans ap)⟩;rw[ag];exact⟨λU=>Ml ⟨hi,an,aj,hv,T,al,ah,ai,am,ad,Q,F.1 u,U⟩,λe=>(Oy e).QT⟩
end
end
section
variable{m:E}{b:List bN}{w:Int}{d:bN}{a:Nat}{W:List Nat}
def qX(n:Int)(m:E):dw cp 76 [vi n] m (gR n):=by
 apply HU;refine⟨λb=>eV ?_ (J.az _),λb=>bW (λa=>?_) (J.az _)⟩
 .simp at b;simp[gR,b]
 .simp at b;have:=a.1;omega
def Gg{f:O}(d:cR m f b)(j:zD w):dw cp 196 [O.v f,vi w] m (qJ b w):=by
 apply Ag;refine(iB d j.2).mono ?_;rintro _ k ⟨a,h,rfl,e,_,g⟩;refine⟨a,h,rfl,λc=>iV (Or.inr (e.1 c)) g,λc=>?_⟩;refine(qX w k).then λb2 n i l=>⟨b2,rfl,eV ?_ (g.trans l)⟩;rw[i];exact⟨Or.inl,λd=>d.resolve_right (fb e c)⟩
structure Jl(b:List bN)(d:bN):Prop where
 lo: -1<=d.aQ
 kD:0<=d.kD/\d.kD<=99
 fl:d.aF.length<=3
 wY:d.aQ<1->d.kD=0
 ji:d.aQ=0->d.aF=[]
 cO:∀w∈d.aF,qJ b w/\(d.aQ<0->w=0)
def Jl.ok(a:Jl b d)(e:d.aQ<=999999):oI b d:=
 ⟨a.fl,a.lo,e,λhd=>⟨a.wY hd,λw c=>by
  by_cases f:d.aQ<0
  .exact(a.cO w c).2 f
  .rw[a.ji V]at c;simp at c,a.ji⟩,λ_=>⟨λw c=>(a.cO w c).1,a.kD⟩⟩
def oI.v(a:oI b d):Jl b d:=by
 refine⟨a.lo,?_,a.fl,λhd=>(a.wY hd).1,λf=>(a.wY V).2.2 f,λw e=>⟨?_,λg=>(a.wY V).2.1 w e⟩⟩
 .by_cases c:0<d.aQ
  .exact(a.oZ c).2
  .have:=(a.wY V).1;omega
 .by_cases c:0<d.aQ
  .exact(a.oZ c).1 w e
  .have:=(a.wY V).2.1 w e;exact Or.inl (by subst this;exact⟨bh,bh⟩)
def Jl.cases(c:Jl b d)(e:w∈d.aF):fW b w\/w<1000:=by
 rcases(c.cO w e).1 with a|a
 .have:=a.2;exact Or.inr V
 .exact Or.inl a
def FX{z j:O}(E:cR m z b)(x:ap m j d.aF)(G:∀w∈d.aF,zD w):dw cp 152 [O.v z,.agg #[vi d.aQ,vi d.kD,O.v j]] m (Jl b d):=by
 apply Aa;simp -zeta only[aC,aB];intro e;have f:J m e:=(J.az m).aK _;have N:e.size=m.size+1:=by simp[e]
 clear_value e;have y:=x.len;have F:∀C∈[m.size],C<e.size:=bF;refine⟨λk=>bW (λc=>by have:=c.lo;simp at k;omega) f,λk=>⟨λl=>bW (λc=>by have:=c.kD;simp at l;omega) f,λl=>⟨λo=>bW (λc=>by have:=c.kD;simp at o;omega) f,λo=>⟨λr=>bW (λc=>by have:=c.fl;simp at r;omega) f,λr=>?_⟩⟩⟩⟩;simp at k l o r;refine⟨λM=>M=e/\(d.aQ<1->d.kD=0)/\(d.aQ=0->d.aF=[]),?_,?_⟩
 .have zero:(d.aQ<1->d.kD=0)->((d.aQ==(0:Int))=true->((decide ((j.len:Int)>(0:Int)))=true->∃a:Bool,vb false=.bool a/\(a=true<->Jl b d)/\J m e)/\
   ((decide ((j.len:Int)>(0:Int)))=false->e=e/\(d.aQ<1->d.kD=0)/\(d.aQ=0->d.aF=[])))/\((d.aQ==(0:Int))=false->e=e/\(d.aQ<1->d.kD=0)/\(d.aQ=0->d.aF=[])):=λh=>
   ⟨λg=>⟨λa=>bW (λc=>by have:=c.ji (by simpa using g);rw[this]at y;simp at a y;omega) f,λa=>⟨rfl,h,λ_=>List.length_eq_zero_iff.1 (by simp at a;omega)⟩⟩,λg=>⟨rfl,h,λa=>by simp at g;exact absurd a g⟩⟩
  refine⟨λg=>⟨λa=>bW (λc=>by have:=c.wY (by simpa using g);simp at a;exact a this) f,λa=>zero λ_=>by simpa using a⟩,λg=>zero λa=>by simp at g;omega⟩
 .rintro H ⟨rfl,hd,D⟩;refine dW (n:=d.aF.length) V (λv h=>J H h/\∀w∈d.aF.take v,qJ b w/\(d.aQ<0->w=0)) ⟨J.az _,aL⟩ ?_;rintro v L I μ K ⟨q,u⟩ B
  refine dit (λg=>?_) λg=>?_
  .let⟨w,h⟩:=cK d.aF v;refine⟨V,V,w,by simpa using(x.ext (f.trans q)).aE h,(Gg (cR.ext (f.trans q) E) (G w (aq h))).aI q F λb4 A t P p=>⟨b4,rfl,λa=>bW (λc=>nb t a (c.cO w (aq h)).1) (f.trans p),λa=>⟨λs=>⟨λi=>bW (λc=>?_) (f.trans p),λi=>B V A ⟨p,bD h u ⟨yb t a,λ_=>by simpa using i⟩⟩⟩,λs=>B V A ⟨p,bD h u ⟨yb t a,λi=>by simp at s;omega⟩⟩⟩⟩⟩;have:=(c.cO w (aq h)).2 (by simpa using s);simp at i;exact i this
  .exact iV ⟨k,⟨l,o⟩,V,hd,D,df V u⟩ (f.trans q)
def iv(mk:Nat->Bool):Nat->List bN->Nat->Int
 |_,[],_=>0
 |i,d::b,a=>(if mk i=true then 0 else eD d.aF a)+iv mk (i+1) b a
def Er:∀(i:Nat)(b:List bN)(a:Nat),iv (λ_=>false) i b a=eA b a
 |_,[],_=>rfl
 |i,d::b,a=>by simp[iv,eA,Er (i+1) b a]
def Gq(mk:Nat->Bool):∀(i:Nat)(b:List bN)(a:Nat),0<=iv mk i b a
 |_,[],_=>dx 0
 |i,d::b,a=>by have:=Gq mk (i+1) b a;have:=iL d.aF a;simp only[iv];split<;>omega
def P8(mk:Nat->Bool):∀(i:Nat)(b:List bN)(a:Nat),iv mk i b a<=eA b a
 |_,[],_=>dx 0
 |i,d::b,a=>by have:=P8 mk (i+1) b a;have:=iL d.aF a;simp only[iv,eA];split<;>omega
def JD{mk e:Nat->Bool}:∀{i:Nat}{b:List bN}{a:Nat},(∀j,i<=j->mk j=e j)->iv mk i b a=iv e i b a
 |_,[],_,_=>rfl
 |i,d::b,a,c=>by simp only[iv];rw[c i (ad _),JD λj f=>c j V]
def NS{mk:Nat->Bool}:∀{e:Nat}{b:List bN}{f:Nat}{d:bN},b[f]? =some d->mk (e+f)=false->∀a,iv (mW mk (e+f)) e b a=iv mk e b a -eD d.aF a
 |_,[],_,_,b,_,_=>by simp at b
 |e,m::b,0,d,j,l,a=>by
  simp at j;subst j;have g:=JD (mk:=mW mk e) (e:=mk) (i:=e+1) (b:=b) (a:=a) λo n=>pW V;rw[jM]at l⊢;simp only[iv,Cj,l,g];simp;omega
 |e,m::b,f+1,d,j,l,a=>by
  have g:e+(f+1)=e+1+f:=V;have:=NS (mk:=mk) (e:=e+1) (b:=b) (f:=f) (d:=d) (by simpa using j) (by rw[<-g];exact l) a;simp only[iv];rw[g,this,pW V];omega
def P7{mk:Nat->Bool}:∀{e:Nat}{b:List bN}{j:Nat}{d:bN},b[j]? =some d->mk (e+j)=false->∀a,eD d.aF a<=iv mk e b a
 |_,[],_,_,b,_,_=>by simp at b
 |e,l::b,0,d,f,g,a=>by
  simp at f;subst f;have:=Gq mk (e+1) b a;simp only[jM]at g;simp only[iv,g];simp;omega
 |e,l::b,j+1,d,f,g,a=>by
  have:=P7 (mk:=mk) (e:=e+1) (b:=b) (j:=j) (d:=d) (by simpa using f) (by rw[<-g];congr 1;omega) a;have:=iL l.aF a;simp only[iv];split<;>omega
def NR{mk:Nat->Bool}:∀{i:Nat}{b:List bN}{a:Nat},0<iv mk i b a->∃(k:Nat)(d:bN),b[k]? =some d/\mk (i+k)=false/\(1000+(a:Int))∈d.aF
 |_,[],_,b=>by simp[iv]at b
 |i,c::b,a,g=>by
  simp only[iv]at g;by_cases f:mk i=false/\0<eD c.aF a
  .exact⟨0,c,rfl,f.1,OR f.2⟩
  .have:0<iv mk (i+1) b a:=by
    have:=iL c.aF a;split at g
    .omega
    .rename_i h;have:¬0<eD c.aF a:=λe=>f ⟨by simpa using h,e⟩;omega
   let⟨k,d,h,e,j⟩:=NR this;exact⟨k+1,d,by simpa using h,by rw[<-e];congr 1;omega,j⟩
def Tn(b:List bN)(mk:Nat->Bool):Prop:=
 ∃t:Nat->Nat,(∀j,mk j=true->t j<=mP mk b.length)/\∀(i:Nat)(d:bN),b[i]? =some d->∀w∈d.aF,1000<=w->mk (ix w)=true->mk i=true/\t i<t (ix w)
def Tn.set{mk:Nat->Bool}(u:Tn b mk)(t:a<b.length)(k:mk a=false)(B:iv mk 0 b a=0):Tn b (mW mk a):=by
 let⟨A,n,s⟩:=u;have r:=zR k t;have v:∀(c:Nat)(d:bN),b[c]? =some d->(1000+(a:Int))∈d.aF->mk c=true:=λc d f g=>by
  cases e:mk c
  .have g1:=P7 (mk:=mk) (e:=0) f (by rw[bV];exact e) a;have g2:=uK g;omega
  .rfl
 refine⟨λx=>if x=a then mP mk b.length+1 else A x,λy o=>?_,λc d f w g q p=>?_⟩
 .simp only[r];split
  .omega
  .rename_i h;rw[pW h]at o;have:=n y o;omega
 .by_cases h:ix w=a
  .have e:=v c d f (by rw[<-h,iu q];exact g);have l:c≠a:=λj=>by rw[j,k]at e;cases e
   simp only[ao h,ae l];exact⟨Ck e,oh (n c e)⟩
  .rw[pW h]at p;let⟨m,z⟩:=s c d f w g q p;have l:c≠a:=λj=>by rw[j,k]at m;cases m
   simp only[ae h,ae l];exact⟨Ck m,z⟩
def PA(f:Nat->Nat):∀n,∃B,∀i,i<n->f i<=B
 |0=>⟨0,λi a=>absurd a (eY _)⟩
 |n+1=>by
  let⟨B,c⟩:=PA f n;refine⟨B+f n,λi a=>?_⟩;rcases aW i n with b|b
  .have:=c i b;omega
  .have:i=n:=V;subst this;omega
def Vi{mk:Nat->Bool}(r:Tn b mk)(q:∀d∈b,∀w∈d.aF,1000<=w->ix w<b.length)(o:∀a,a<b.length->iv mk 0 b a=0->mk a=true):
 mP mk b.length=b.length<->Td b:=by
 rw[KM]
 constructor
 .intro g
  let⟨t,e,c⟩:=r
  refine⟨λx=>b.length -t x,λi d h w j f=>?_⟩
  have k:=q d (aq h) w j f
  have:=(c i d h w j f (g _ k)).2
  have:=e _ (g _ k)
  have:=FJ mk b.length
  show b.length -t (ix w)<b.length -t i
  omega
 .rintro⟨h,s⟩
  let⟨B,m⟩:=PA h b.length
  have u:∀(n i:Nat),B -h i<n->i<b.length->mk i=true:=by
   intro n;induction n with
   |zero=>intro i g;omega
   |succ n t=>
    intro i g p;refine o i p (Int.le_antisymm (Int.not_lt.1 λf=>?_) (Gq _ _ _ _));let⟨k,d,e,c,l⟩:=NR f;rw[bV]at c;have:=s k d e _ l V;rw[lL]at this;have j:=av e;have:=m k j;rw[t k V j]at c;cases c
  exactλi g=>u (B -h i+1) i V g
structure HB(b:List bN)(mk:Nat->Bool)(W:List Nat)(lf:Nat->Int):Prop where
 Lt:W.Nodup
 un:∀a∈W,a<b.length/\mk a=false
 zero:∀a,a<b.length->(lf a=0<->(mk a=true\/a∈W))
def Gl:∀(n:Nat)(W:List Nat),W.Nodup->(∀a∈W,a<n)->W.length<=n
 |0,[],_,_=>ad _
 |0,a::_,_,b=>absurd (b a aL) (eY _)
 |n+1,W,hd,b=>by
  by_cases d:n∈W
  .have e:=Gl n (W.erase n) (hd.erase n) λa c=>by
    have:=hd.mem_erase_iff.1 c;have:=b a this.2;omega
   rw[List.length_erase_of_mem d]at e;omega
  .have:=Gl n W hd λa c=>by
    have:=b a c;have:a≠n:=λe=>d (e▸c);omega
   omega
def HB.len{mk:Nat->Bool}{d:Nat->Int}(K:HB b mk W d):W.length<=b.length:=Gl _ _ K.Lt λa c=>(K.un a c).1
def HB.Vl{mk:Nat->Bool}{f:Nat->Int}(K:HB b mk (W++[a]) f):HB b (mW mk a) W f:=by
 let⟨g,i,h⟩:=List.nodup_append.1 K.Lt;refine⟨g,λx c=>?_,λx c=>?_⟩
 .have d:=K.un x (bJ _ c);refine⟨d.1,?_⟩;rw[pW λe=>h x c a aL e];exact d.2
 .rw[K.zero x c];by_cases e:x=a
  .subst e;simp[Cj]
  .rw[pW e];simp[e]
def HB.kC{mk:Nat->Bool}{g lf':Nat->Int}(K:HB b mk W g)(i:a<b.length)(j:∀x,lf' x=if x=a then g x -1 else g x)(l:0<g a):
 (lf' a=0->HB b mk (W++[a]) lf')/\(lf' a≠0->HB b mk W lf'):=by
 have f:mk a≠true/\a∉W:=by
  have:=(K.zero a i).2;constructor
  .intro d;have:=this (Or.inl d);omega
  .intro d;have:=this (Or.inr d);omega
 refine⟨λh=>⟨?_,λx c=>?_,λx c=>?_⟩,λh=>⟨K.Lt,K.un,λx c=>?_⟩⟩
 .rw[List.nodup_append]
  refine⟨K.Lt,aL,λx c y k e=>?_⟩
  simp at k;subst k;subst e;exact f.2 c
 .rcases List.mem_append.1 c with c|c
  .exact K.un x c
  .simp at c;subst c;exact⟨i,by simpa using f.1⟩
 .by_cases e:x=a
  .subst e;simp[h]
  .rw[j x,ae e,K.zero x c];simp[e]
 .by_cases e:x=a
  .subst e
   constructor
   .intro d;exact absurd d h
   .rintro(d|d)
    .exact absurd d f.1
    .exact absurd d f.2
  .rw[j x,ae e,K.zero x c]
end
section
variable{b:Nat->Nat}{m:E}{k c a:Nat}{s:O}{d:Nat->Int}
def U7(W:List Nat):List Int:=W.map λ(a:Nat)=>(a:Int)
def Ko(W:List Nat):(U7 W).length=W.length:=by simp[U7]
def KP(W:List Nat)(a:Nat):U7 (W++[a])=U7 W++[(a:Int)]:=by simp[U7]
def V9(h:iP b m aA 1 k s ((sZ c d).map Ce.i))(g:c<=9223372036854775807)(e:a<c):af m s.D (s.off+Int.toNat (a:Int)*1)=some (vi (d a)):=by
 have:=(h.nV (by rw[oE];exact g)).aE (uY (f:=d) e);simpa using this
def Up(h:iP b m aA 1 k s ((sZ c d).map Ce.i)):s.len=c:=by have:=h.len;simp[oE]at this;omega
def Xu{g:Nat->Int}(h:iP b m aA 1 k s ((sZ c d).map Ce.i))(q:a<c){v:Int}(o:∀e,e<c->g e=if e=a then v else d e)(p:∀e,m.size<=e->b e=0):
 fL m s.D (s.off+Int.toNat (a:Int)*1) 1/\iP b (ah m s.D (s.off+Int.toNat (a:Int)*1) [.i v]) aA 1 k s ((sZ c g).map Ce.i)/\dq (λj=>j=k) b m b (ah m s.D (s.off+Int.toNat (a:Int)*1) [.i v]):=by
 have f:(0:Int)<=(a:Int):=V
 have i:(a:Int)<((sZ c d).length:Nat):=by rw[oE];omega
 have j:=h.gJ f i v
 have l:gJ (sZ c d) (a:Int) v=sZ c g:=by
  unfold gJ;rw[show Int.toNat (a:Int)=a by omega,Sf];exact fE λe n=>(o e n).symm
 rw[l]at j
 have r:=Up h
 have t:=h.le
 exact⟨h.Ob f i,j,dq.ah p (h.D V).2 _ _⟩
def XY(m:E)(h:List bN)(v:Value)(c:E):Prop:=∃(s:O)(b:Bool),v=.tuple #[O.v s,vb b]/\(b=true<->Ok h)/\
 (b=true->∃a,s=.mk a 0 h.length h.length/\m.size<=a/\cJ c a aA ((sZ h.length (eA h)).map Ce.i))/\J m c
def Ct{N:O}{h:List bN}(y:cR m N h)(aS:Sp h)(bm:h.length<=1000000000):aN cp 77 [O.v N] m (XY m h):=by
 apply xg;simp -zeta only[aC,aB];have hl:=y.len;have en:Int.toNat (N.len:Int)=h.length:=V;rw[en];refine⟨V,V,V,V,?_⟩;intro m1;have x1:J m m1:=(J.az m).aK _;have B1:cJ m1 m.size aA ((sZ h.length (λ_=>0)).map Ce.i):=Mo m _;clear_value m1;have no:∀{M:E},J m M->¬Ok h->XY m h (.tuple #[O.v O.nil,vb false]) M:=λT G=>⟨.nil,false,rfl,by simp[G],aL,T⟩;have am:∀c:Nat,Int.toNat (c:Int)=c:=λc=>V;simp -zeta only[O.gK,O.jI,O.nm,bV];refine dW (n:=h.length) V (λt l=>J m l/\cJ l m.size aA ((sZ h.length (λa=>eA (h.take t) a)).map Ce.i)/\∀e∈h.take t,Jl h e) ⟨x1,by simpa[eA]using B1,aL⟩ ?_;rintro t m2 bt μ hi ⟨Z,B2,ai⟩ X
 have bC:=B2.lt;have h3:∀e∈h.take t,e.aF.length<=3:=λe hm=>(ai e hm).fl;refine dit (λh1=>?_) λh1=>?_
 .let⟨e,r⟩:=cK h t;have ab:=aq r;let⟨d,hf,g0,g1,g2⟩:=(cR.ext Z y).aE r;rw[am];refine⟨V,V,e.aQ,g0,e.kD,g1,d,g2,?_⟩;intro L I;have o:J m2 I:=((J.az m2).aK _).ah (ad _) _ _;have s4:I.size=m2.size+1:=by simp[I,L,aw]
  clear_value I;refine(FX (cR.ext (Z.trans o) y) (hf.ext o) (aS e ab)).aI (J.az _) bF λj U S s _=>⟨j,rfl,λh2=>no ((Z.trans o).trans s) λz=>nb S h2 (z.cells e ab).v,λh2=>?_⟩;have A:=yb S h2;have be:=A.fl;have z5:=s.size;have ah:=hf.len;refine dW (n:=e.aF.length) V (λk l=>J m l/\m2.size<l.size/\ap l d e.aF/\cJ l m.size aA ((sZ h.length (λa=>eA (h.take t) a+eD (e.aF.take k) a)).map Ce.i)) ⟨((Z.trans o).trans s),V,(hf.ext (o.trans s)),by simpa[eD]using(B2.ext (o.trans s))⟩ ?_;rintro k p aa ν z ⟨K,z6,D,l⟩ Q;refine dit (λh4=>?_) λh4=>?_
  .let⟨w,H⟩:=cK e.aF k;have au:=aq H;refine⟨V,V,w,by simpa using D.aE H,(iB (cR.ext K y) (aS e ab w au).2).mono ?_⟩;rintro _ q ⟨a,R,rfl,P,W,F⟩;have z7:=F.size;refine⟨F.dy bF,a,R,rfl,λC=>?_,λC=>?_⟩
   .have ag:=P.1 C;have ac:=av (bS ag).1;have e1:=W C;subst e1;have x:=l.ext F;have q1:=Cf (h.take t) (ix w) h3;have q2:=kK (e.aF.take k) (ix w);have q3:=rf (h.take t) (ix w);have q4:=iL (e.aF.take k) (ix w);have q5:(h.take t).length<=h.length:=bF;have q6:(e.aF.take k).length<=3:=bF;rw[am,eS];refine⟨V,V,_,tT x ac,V,V,N4 x ac,?_⟩;rw[show cT (eA (h.take t) (ix w)+eD (e.aF.take k) (ix w)+1)=eA (h.take t) (ix w)+eD (e.aF.take k) (ix w)+1 from aP V V];have B:=Jd x (ix w) (eA (h.take t) (ix w)+eD (e.aF.take k) (ix w)+1);rw[fE (g:=λa=>eA (h.take t) a+eD (e.aF.take (k+1)) a)]at B
    .refine⟨λj S=>bd _ _ _ _ (by simp at S;omega),Q V _ ⟨(K.trans F).ah (ad _) _ _,by rw[aw];omega,?_,B⟩⟩;obtain⟨f0,aR,_,_,w2⟩:=y.aE r;have er:f0=d:=by have:=Z.af w2;rw[g2]at this;exact(O.BR.1 (jS this)).symm
     subst er;exact aR.ext ((K.trans F).ah (ad _) _ _)
    .intro j S;rw[rD H];by_cases u:j=ix w
     .subst u;rw[ao rfl,ao (iu ag.1).symm];omega
     .rw[ae u,ae (λY=>u (by rw[Y,lL]))];omega
   .refine Q V q ⟨K.trans F,V,D.ext F,?_⟩;have bj:w<1000:=(A.cases au).resolve_left (fb P C);rw[fE (g:=λa=>eA (h.take t) a+eD (e.aF.take k) a)]
    .exact l.ext F
    .intro j S;rw[rD H,ae V];omega
  .have x:e.aF.take k=e.aF:=bY V;rw[x]at l;refine X V p ⟨K,?_,bD r ai A⟩
   rw[fE (g:=λa=>eA (h.take t) a+eD e.aF a)]
   .exact l
   .intro j S;exact NV r j
 have ei:h.take t=h:=bY V;rw[ei]at B2 ai h3;clear X
 have a1:∀e∈h,∀w∈e.aF,fW h w\/w<1000:=λe s w H=>(ai e s).cases H;have ag:∀e∈h,∀w∈e.aF,1000<=w->ix w<h.length:=λe hm w H N=>by
  rcases a1 e hm w H with h1|h1
  .exact av (bS h1).1
  .omega
 refine⟨λM=>m2=M/\oB h,⟨λh2=>?_,λh2=>⟨rfl,λe s=>?_⟩⟩,?_⟩
 .simp at h2;rw[aP V V];let⟨e,s⟩:=cK h (h.length -1);obtain⟨d,hf,g1,_,_⟩:=(cR.ext Z y).aE s;have u:Int.toNat ((N.len:Int) -1)=h.length -1:=V;rw[u];refine⟨V,V,e.aQ,g1,λh3=>no Z λz=>z.jG e s (by simpa using h3),λh3=>⟨rfl,λak hd=>?_⟩⟩;rw[s]at hd;simp at hd;subst hd;simpa using h3
 .have:=av s;simp at h2;omega
 rintro _ ⟨rfl,bn⟩;refine(eO (Pa B2 V) (by rw[oE];exact bm)).mono ?_;rintro _ L ⟨A,rfl,or,x3⟩;have z3:=x3.size;have B3:=B2.ext x3;have bI:=Z.size;obtain⟨B,aH⟩:∃B:Nat->Nat,B=λj=>if A.Gh=false/\j=A.D then 2 else if j=m.size then 1 else 0:=⟨_,rfl⟩
 have aF:A.Gh=false->m2.size<=A.D/\A.D<L.size:=λG=>by
  have ah:A≠.nil:=λu=>by rw[u]at G;simp at G
  exact⟨or.D.resolve_left ah,or.lt.resolve_left ah⟩
 have aV:∀j,j≠m.size->(A.Gh=false->j≠A.D)->B j=0:=λj h4 C=>by
  rw[aH];exact(ae λy=>C y.1 y.2).trans (ae h4)
 have bs:B m.size=1:=by
  rw[aH];exact(ae λy=>oh (aF y.1)).trans (ao rfl)
 have bp:∀j,L.size<=j->B j=0:=λj S=>aV j V λG=>by have:=aF G;omega
 have a_:∀j,j<m.size->B j=0:=λj S=>aV j V λG=>by have:=aF G;omega
 have A3:iP B L aA 1 2 A ((sZ h.length (eA h)).map Ce.i):=iP.gB or λah=>by
  rw[aH];refine ao ⟨?_,rfl⟩;cases A with
  |nil=>exact absurd rfl ah
  |_=>rfl
 have bA:=Up A3;clear aF aV aH;have aJ:∀{b a6:Nat->Nat}{M M':E},dq (λk=>k=2\/k=6) b M a6 M'->To b M a6 M':=λs=>s.mono λk z=>V;have aM:∀{b:Nat->Nat}{M:E},dq (λk=>k=2\/k=6) B L b M->J m M:=λs=>((aJ s).cz (Z.trans x3) a_).1;have a5:∀{b:Nat->Nat}{M:E},dq (λk=>k=2\/k=6) B L b M->cJ M m.size aA ((sZ h.length (eA h)).map Ce.i):=λs=>B3.congr (s.eC _ B3.lt (by rw[bs];decide));have bq:iP B L aA 1 6 .nil (([]:List Int).map Ce.i):=⟨aL,aL,Or.inl rfl⟩;refine⟨A,rfl,eB (σ:=O) (n:=h.length) V (λk P M=>∃b W,dq (λk=>k=2\/k=6) B L b M/\iP b M aA 1 2 A ((sZ h.length (eA h)).map Ce.i)/\iP b M aA 1 6 P ((U7 W).map Ce.i)/\W.Nodup/\(∀a∈W,a<k)/\(∀a,a<k->(eA h a=0<->a∈W))/\
  ∀(a:Nat)(e:bN),a<k->h[a]? =some e->0<e.aQ->eA h a<=e.aQ/\e.aQ<=999999) ⟨B,[],dq.az _ bp,A3,bq,aL,aL,aL,aL⟩ ?_⟩
 rintro k P I I2 μ2 z ⟨Y,W,C4,A4,W4,an,aj,aI,aE⟩ X
 have X4:=aM C4;refine dit (λh4=>?_) λh4=>?_
 .have al:k<h.length:=V;let⟨e,aa⟩:=dD al;let⟨d,hf,g0,g1,g2⟩:=(cR.ext X4 y).aE aa;rw[am];refine⟨V,V,e.aQ,g0,e.kD,g1,d,g2,?_⟩;intro U p;have K:J I p:=((J.az I).aK _).ah (ad _) _ _;have s6:p.size=I.size+1:=by simp[p,U,aw]
  clear_value p;have ax:dq (λk=>k=2\/k=6) Y I Y p:=dq.eI _ K C4.new;have C6:=C4.trans ax;have F6:dq (λ_=>False) Y I Y p:=dq.eI _ K C4.new;have A6:=A4.eJ F6 id;have W6:=W4.eJ F6 id;have g6:=tT (a5 C6) al;have il:(0<e.aQ->eA h k<=e.aQ/\e.aQ<=999999)->∀(a:Nat)(e:bN),a<k+1->h[a]? =some e->0<e.aQ->eA h a<=e.aQ/\e.aQ<=999999:=λG a ak o hd=>by
   rcases aW a k with Q|Q
   .exact aE a ak Q hd
   .have:a=k:=V;subst this;rw[aa]at hd;simp at hd;subst hd;exact G
  have jV:(0<e.aQ->eA h k<=e.aQ/\e.aQ<=999999)->((0:Int)<=k/\(k:Int)<(h.length:Int)/\∃r:Int,af p m.size (k*1)=some (vi r)/\
   ((r==(0:Int))=true->let x:E:=p.push (.cells (bu [.i (k:Int)]) 3)
    jT x 3 [.i (0:Int)] 8 P (O.mk p.size 0 1 1) λD l=>eH [I.size] x l/\I2 D (cT ((k:Int)+(1:Int))) l/\μ2 D (cT ((k:Int)+(1:Int))) l<μ2 P k I)/\
   ((r==(0:Int))=false->I2 P (cT ((k:Int)+(1:Int))) p/\μ2 P (cT ((k:Int)+(1:Int))) p<μ2 P k I)):=λG=>by
   refine⟨V,V,_,by rw[eS];exact g6,λD=>?_,λD=>?_⟩
   .intro q
    have F:J p q:=(J.az p).aK _
    have k7:cJ q p.size 3 [.i (k:Int)]:=cJ.push p _ _
    have s7:q.size=p.size+1:=by simp[q]
    have F7:dq (λ_=>False) Y p Y q:=dq.eI _ F C6.new
    have C7:dq (λk=>k=2\/k=6) B L Y q:=C6.trans (dq.eI _ F C6.new)
    have ay:=W6.len
    simp[Ko]at ay
    have az:W.length<=h.length:=Gl _ _ an λa o=>by have:=aj a o;omega
    refine iP.append (zs:=[.i 0]) (c:=[.i (k:Int)]) (W6.eJ F7 id) C7.new aL k7.iJ (by simp only[O.gK];omega) λr a4 m8 a8 c8=>⟨(aJ (c8.mono λl hj=>Or.inr hj)).dy (by simp;exact⟨V,C4.new _ (ad _)⟩),?_⟩
    refine X V _ _ ⟨r,W++[k],C7.trans (c8.mono λl hj=>Or.inr hj),(A6.eJ F7 id).eJ c8 bh,by rw[KP];simpa using a8,?_,λa o=>?_,λa o=>?_,il G⟩
    .rw[List.nodup_append]
     refine⟨an,aL,λx T aD R u=>?_⟩
     simp at R;subst R;subst u;have:=aj _ T;omega
    .rcases List.mem_append.1 o with o|o
     .have:=aj a o;omega
     .simp at o;omega
    .rcases aW a k with R|R
     .rw[aI a R];simp;omega
     .have:a=k:=V
      subst this
      simp at D;simp[D]
   .refine X V _ _ ⟨Y,W,C6,A6,W6,an,λa o=>oh (aj a o),λa o=>?_,il G⟩
    rcases aW a k with R|R
    .exact aI a R
    .have:a=k:=V
     subst this
     simp at D
     simp only[D,false_iff]
     intro hm;have:=aj _ hm;omega
  refine⟨λC=>⟨V,V,_,by rw[eS];exact g6,λQ=>no (X4.trans K) λz=>?_,λQ=>⟨λD=>no (X4.trans K) λz=>?_,λD=>jV λ_=>by simp at Q D;omega⟩⟩,λC=>jV λQ=>by simp at C;omega⟩
  .have:=z.eA k e aa (by simpa using C);simp at Q;omega
  .have:=(z.cells e (aq aa)).hi;simp at D;omega
 have bf:k=h.length:=V;subst bf;clear X h4
 have bc:∀e∈h,oI h e:=λe s=>by
  let⟨a,o⟩:=List.mem_iff_getElem?.1 s;refine(ai e s).ok ?_;rcases Ji 0 e.aQ with N|N
  .exact(aE a e (av o) o N).2
  .omega
 have bl:∀(a:Nat)(e:bN),h[a]? =some e->0<e.aQ->eA h a<=e.aQ:=λa e o N=>(aE a e (av o) o N).1;have bi:∀mk a,iv mk 0 h a<=3*h.length:=λmk a=>by
  have:=P8 mk 0 h a;have:=Cf h a λe hm=>(ai e hm).fl;omega
 have K0:HB h (λ_=>false) W (iv (λ_=>false) 0 h):=⟨an,λa o=>⟨aj a o,rfl⟩,λa o=>by rw[Er,aI a o];simp⟩;have c0:mP (λ_=>false) h.length=0:=by
  generalize h.length=c;induction c with
  |zero=>rfl
  |succ c K=>simp[mP,K]
 refine Si (γ:=(Nat->Bool)×List Nat) (λK P a3 M=>∃b,a3=(mP K.1 h.length:Nat)/\dq (λk=>k=2\/k=6) B L b M/\iP b M aA 1 2 A ((sZ h.length (iv K.1 0 h)).map Ce.i)/\iP b M aA 1 6 P ((U7 K.2).map Ce.i)/\HB h K.1 K.2 (iv K.1 0 h)/\Tn h K.1)
  (λK=>h.length -mP K.1 h.length) (λ_=>false,W) ⟨Y,by rw[c0];rfl,C4,by rw[fE (g:=eA h) λj _=>Er 0 h j];exact A4,W4,K0,λ_=>0,aL,aL⟩ ?_
 clear C4 A4 W4 K0 c0 X4 an aj aI aE;rintro⟨mk,W⟩ P a3 U I3 μ3 ⟨aa,rfl,C5,A5,W5,K5,O5⟩ X
 simp only at A5 W5 K5 O5 X
 have X5:=aM C5;have ay:=W5.len;simp[Ko]at ay;have bv:=K5.len;refine⟨λC=>?_,λC=>?_⟩
 .simp only[kQ,ar]at C;have ah:W≠[]:=λu=>by subst u;simp at ay;omega
  obtain⟨W',a,rfl⟩:∃W' a,W=W'++[a]:=⟨W.dropLast,W.getLast ah,(fy ah).symm⟩;rw[KP]at W5;let⟨p1,p2,p3⟩:=W5.Vl;rw[Ko]at p1 p2 p3;have e1:cT ((P.len:Int) -1)=(W'.length:Int):=by rw[aP V V];omega
  let⟨az,aQ⟩:=K5.un a aL;let⟨e,aD⟩:=dD az;have ab:=aq aD;have be:=(ai e ab).fl;let⟨d,hf,g0,g1,g2⟩:=(cR.ext X5 y).aE aD;rw[e1,am];have bB:=W5.le;refine⟨V,V,a,p2,V,V,?_⟩;rw[am];refine⟨e.aQ,g0,e.kD,g1,d,g2,?_⟩;intro p q;have F:J U q:=((J.az U).aK _).ah (ad _) _ _;have s7:q.size=U.size+1:=by simp[q,p,aw]
  clear_value q;have F7:dq (λ_=>False) aa U aa q:=dq.eI _ F C5.new;have C7:dq (λk=>k=2\/k=6) B L aa q:=C5.trans (dq.eI _ F C5.new);have bx:=hf.len;have hz:iv mk 0 h a=0:=(K5.zero a az).2 (Or.inr aL);have O7:=O5.set az aQ hz;have aT:=λx=>NS (mk:=mk) (e:=0) aD (by rw[bV];exact aQ) x;simp only[bV]at aT;have es:=zR aQ az;have bw:=FJ (mW mk a) h.length;have K7:HB h (mW mk a) W' (λx=>iv (mW mk a) 0 h x+eD (e.aF.drop 0) x):=by
   have:=K5.Vl;refine⟨this.Lt,this.un,λx T=>?_⟩;rw[<-this.zero x T,aT,List.drop_zero];constructor<;>intro h<;>omega
  refine⟨V,V,V,eB (σ:=O) (n:=e.aF.length) V (λl wk M=>∃b W2,dq (λk=>k=2\/k=6) aa q b M/\iP b M aA 1 2 A ((sZ h.length (λx=>iv (mW mk a) 0 h x+eD (e.aF.drop l) x)).map Ce.i)/\iP b M aA 1 6 wk ((U7 W2).map Ce.i)/\HB h (mW mk a) W2 (λx=>iv (mW mk a) 0 h x+eD (e.aF.drop l) x))
   ⟨aa,W',dq.az _ C7.new,?_,?_,K7⟩ ?_⟩
  .have:=A5.eJ F7 id;rw[fE (g:=iv mk 0 h) λj _=>by simp only[aT,List.drop_zero];omega];exact this
  .exact p3.eJ F7 id
  rintro l wk m8 I4 μ4 hj ⟨r,W2,C8,A8,W8,K8⟩ aU;have X8:=aM (C7.trans C8);have T8:=aJ C8;have r7:U.size<m8.size/\r U.size=0:=⟨by have:=C8.size;omega,by rw[C8.gZ _ V];exact C5.new _ (ad _)⟩;refine dit (λQ=>?_) λQ=>?_
  .let⟨w,H⟩:=cK e.aF l;have au:=aq H;have ba:=aS e ab w au;have a2:e.aF.drop l=w::e.aF.drop (l+1):=by
    rw[qx (av H)];congr 1;exact(List.getElem?_eq_some_iff.1 H).2
   obtain⟨f0,aR,_,_,w2⟩:=y.aE aD;have er:f0=d:=by have:=X5.af w2;rw[g2]at this;exact(O.BR.1 (jS this)).symm
   subst er;refine⟨V,V,w,by simpa using(aR.ext X8).aE H,(iB (cR.ext X8 y) ba.2).mono ?_⟩;rintro _ m9 ⟨a4,b9,rfl,a0,bk,x9⟩;have z9:=x9.size;have F9:dq (λ_=>False) r m8 r m9:=dq.eI _ x9 C8.new;have C9:dq (λk=>k=2\/k=6) aa q r m9:=C8.trans (dq.eI _ x9 C8.new);have A9:=A8.eJ F9 id;have W9:=W8.eJ F9 id;refine⟨x9.dy bF,a4,b9,rfl,λD=>?_,λD=>?_⟩
   .have ag:=a0.1 D;have ac:=av (bS ag).1;have e9:=bk D;subst e9;have ak:∀x,eD (e.aF.drop l) x=(if x=ix w then 1 else 0)+eD (e.aF.drop (l+1)) x:=λx=>by rw[a2,jb ag.1]
    have bb:=ak (ix w);rw[ao rfl]at bb;have n1:=Gq (mW mk a) 0 h (ix w);have n2:=bi (mW mk a) (ix w);have n3:=iL (e.aF.drop (l+1)) (ix w);have n4:=kK (e.aF.drop (l+1)) (ix w);have n5:(e.aF.drop (l+1)).length<=3:=bF;let⟨u1,u2,u3⟩:=Xu (d:=λx=>iv (mW mk a) 0 h x+eD (e.aF.drop l) x) (g:=λx=>iv (mW mk a) 0 h x+eD (e.aF.drop (l+1)) x) A9 ac (v:=iv (mW mk a) 0 h (ix w)+eD (e.aF.drop (l+1)) (ix w)) (λj _=>by
     rw[ak];by_cases u:j=ix w
     .subst u;rw[ao rfl]
     .rw[ae u,ae u];omega) C9.new
    refine⟨V,V,_,V9 A9 V ac,V,V,u1,?_⟩;rw[show cT (iv (mW mk a) 0 h (ix w)+eD (e.aF.drop l) (ix w) -1)=iv (mW mk a) 0 h (ix w)+eD (e.aF.drop (l+1)) (ix w)by rw[aP V V];omega];intro K;have ax:dq (λk=>k=2\/k=6) aa q r K:=C9.trans (u3.mono λk z=>Or.inl z);have bG:K.size=m9.size:=aw _ _ _ _;have aK:iP r K aA 1 6 wk ((U7 W2).map Ce.i):=W9.eJ u3 bh;let⟨v1,v2⟩:=K8.kC (lf':=λx=>iv (mW mk a) 0 h x+eD (e.aF.drop (l+1)) x) ac (λx=>by
     rw[ak];split<;>omega) (show 0<iv (mW mk a) 0 h (ix w)+eD (e.aF.drop l) (ix w)by omega)
    have a8:To r m9 r K:=u3.mono λk z=>V;have aX:iP r K aA 1 2 A ((sZ h.length (λx=>iv (mW mk a) 0 h x+eD (e.aF.drop (l+1)) x)).map Ce.i):=u2;clear_value K;clear u2;refine⟨a8.dy (by simp;exact⟨V,r7.2⟩),V,V,_,V9 aX V ac,λR=>?_,λR=>aU V _ _ ⟨r,W2,ax,aX,aK,v2 (by simpa using R)⟩⟩;intro al;have a7:J K al:=(J.az K).aK _;have bo:cJ al K.size 3 [.i (ix w:Int)]:=cJ.push K _ _;have bH:al.size=K.size+1:=by simp[al]
    have aZ:dq (λ_=>False) r K r al:=dq.eI _ a7 ax.new;have aY:dq (λk=>k=2\/k=6) aa q r al:=ax.trans (dq.eI _ a7 ax.new);have bg:=aK.len;simp[Ko]at bg;have bz:=K8.len;exact iP.append (zs:=[.i 0]) (c:=[.i (ix w:Int)]) (aK.eJ aZ id) aY.new aL bo.iJ (by simp only[O.gK];omega) λbr q2 bE a9 aO=>⟨(aJ (aO.mono λl hj=>Or.inr hj)).dy (by simp;exact⟨V,r7.2⟩),aU V _ _ ⟨br,W2++[ix w],aY.trans (aO.mono λl hj=>Or.inr hj),(aX.eJ aZ id).eJ aO bh,by rw[KP];simpa using a9,v1 (by simpa using R)⟩⟩
   .have bj:w<1000:=(a1 e ab w au).resolve_left (fb a0 D);have ak:∀x,eD (e.aF.drop (l+1)) x=eD (e.aF.drop l) x:=λx=>by
     rw[a2];simp only[eD];rw[ae V];omega
    refine aU V _ _ ⟨r,W2,C9,?_,W9,⟨K8.Lt,K8.un,λx T=>by rw[ak];exact K8.zero x T⟩⟩;rw[fE (g:=λx=>iv (mW mk a) 0 h x+eD (e.aF.drop l) x) λj _=>by rw[ak]];exact A9
  .have K:e.aF.drop l=[]:=Jj V;have D:∀x,iv (mW mk a) 0 h x+eD (e.aF.drop l) x=iv (mW mk a) 0 h x:=λx=>by rw[K];simp[eD]
   rw[show cT ((mP mk h.length:Nat)+1:Int)=((mP (mW mk a) h.length:Nat):Int)by rw[es,aP V V];omega];refine X (mW mk a,W2) _ _ m8 ⟨r,rfl,C7.trans C8,?_,W8,⟨K8.Lt,K8.un,λx T=>by have:=K8.zero x T;rw[D]at this;exact this⟩,O7⟩ (by simp only[];omega)
   rw[fE (g:=λx=>iv (mW mk a) 0 h x+eD (e.aF.drop l) x) λj _=>(D j).symm];exact A8
 .simp only[kQ,bM]at C;have p:W=[]:=List.length_eq_zero_iff.1 V;subst p;have q:=Vi O5 ag λa o l=>((K5.zero a o).1 l).resolve_right aL;refine⟨_,_,rfl,?_,λ_=>⟨m.size,rfl,ad _,a5 C5⟩,X5⟩;rw[aG,show((mP mk h.length:Nat):Int)=(N.len:Int)<->mP mk h.length=h.length by omega,q];exact⟨λo=>⟨bn,bc,bl,o⟩,λz=>z.MD⟩
end
section
variable{j:cU}{f:aX}{m d i:E}{r o e:O}{a b:Nat}
structure Sq(j:cU)(f:aX):Prop where
 fw:0<=f.fw/\f.fw<j.cE.length
 pc:0<=f.pc/\f.pc<(dQ j f.fw).dv.length
 lr:(f.ak.length:Int)=(dQ j f.fw).ak
 lo:(f.aR.length:Int)=(dQ j f.fw).ak
 lh:(f.aZ.length:Int)=(dQ j f.fw).ak
 dB:∀(k:Nat)(w o:Int),f.ak[k]? =some w->f.aR[k]? =some o->(gR w\/1000<=w)/\(0<=o/\o<=999999)
def Sq.aR(h:Sq j f):∀o∈f.aR,0<=o/\o<=999999:=λo b=>by
 let⟨k,a⟩:=List.mem_iff_getElem?.1 b;have:=av a;have d:=h.lr;have e:=h.lo;let⟨w,c⟩:=cK f.ak k;exact(h.dB k w o c a).2
def Ee{P Y:O}(R:fC m P Y j)(K:ap m r f.ak)(z:ap m o f.aR)(he:ap m e f.aZ):
 dw cp 80 [.agg #[O.v P,O.v Y],.agg #[vi f.fw,vi f.pc,vi f.dst,O.v r,O.v o,O.v e]] m (Sq j f):=by
 apply yH
 simp -zeta only[aC,aB]
 intro L d
 have C:J m d:=((J.az m).aK _).aK _
 have s1:L.size=m.size+1:=by simp[L]
 have s2:d.size=m.size+2:=by simp[d,s1]
 clear_value d
 have aj:=R.cE.len
 have al:=K.len
 have ag:=z.len
 have ae:=he.len
 have am:=K.gY
 refine⟨λy=>bW (λa=>by have:=a.fw;simp at y;omega) C,λy=>⟨λD=>bW (λa=>by have:=a.fw;simp at D;omega) C,λD=>?_⟩⟩
 simp at y D
 let⟨ac,U⟩:=cK j.cE f.fw.toNat
 have h:dQ j f.fw=ac:=by simp[dQ,U]
 let⟨pa,pl,pc,ah,ak,aa,k0,k1,k2,k3,k4⟩:=(R.ext C).cE.aE U
 have ai:=aa.len
 refine⟨y,V,pa,k0,pl,k1,_,k2,_,k3,pc,k4,?_⟩
 intro m3 s
 have x4:J d s:=((J.az d).aK _).ah (ad _) _ _
 have s4:s.size=d.size+1:=by simp[s,m3,aw]
 clear_value s
 have c:=C.trans x4
 have hl:∀b∈[d.size,L.size,m.size],b<s.size:=bF
 refine⟨λE=>bW (λa=>by have:=a.pc;simp at E;omega) c,λE=>⟨λF=>bW (λa=>by have:=a.pc;rw[h]at this;simp at F;omega) c,λF=>⟨λG=>bW (λa=>by have:=a.lr;rw[h]at this;simp at G;omega) c,λG=>⟨λH=>bW (λa=>by have:=a.lo;rw[h]at this;simp at H;omega) c,λH=>⟨λI=>bW (λa=>by have:=a.lh;rw[h]at this;simp at I;omega) c,λI=>?_⟩⟩⟩⟩⟩
 simp at E F G H I
 refine dW (n:=f.ak.length) V (λk m'=>J s m'/\∀(g:Nat)(w o:Int),g<k->f.ak[g]? =some w->f.aR[g]? =some o->(gR w\/1000<=w)/\(0<=o/\o<=999999)) ⟨J.az _,λg w o S=>absurd S (eY _)⟩ ?_
 rintro k X Z μ a ⟨N,W⟩ ab
 refine dit (λh8=>?_) λh8=>?_
 .let⟨w,i⟩:=cK f.ak k
  let⟨t,v⟩:=cK f.aR k
  refine⟨V,V,w,by simpa using(K.ext (c.trans N)).aE i,(qX w X).aI N hl λb6 q Q an x=>⟨b6,rfl,?_⟩⟩
  have T:af q o.D (o.off+Int.toNat (k:Int)*1)=some (vi t):=by simpa using(z.ext (c.trans x)).aE v
  have jV:(gR w\/1000<=w)->(0:Int)<=k/\(k:Int)<(o.len:Int)/\∃M:Int,af q o.D (o.off+Int.toNat (k:Int)*1)=some (vi M)/\((decide (M<(0:Int)))=true->∃l:Bool,vb false=.bool l/\(l=true<->Sq j f)/\J m q)/\
   ((decide (M<(0:Int)))=false->(0:Int)<=k/\(k:Int)<(o.len:Int)/\∃p:Int,af q o.D (o.off+Int.toNat (k:Int)*1)=some (vi p)/\((decide (p>(999999:Int)))=true->∃l:Bool,vb false=.bool l/\(l=true<->Sq j f)/\J m q)/\
   ((decide (p>(999999:Int)))=false->Z (cT ((k:Int)+(1:Int))) q/\μ (cT ((k:Int)+(1:Int))) q<μ k X)):=λhi=>
   ⟨V,V,t,T,λp=>bW (λa=>by have:=(a.dB k w t i v).2;simp at p;omega) (c.trans x),λp=>⟨V,V,t,T,λl=>bW (λa=>by have:=(a.dB k w t i v).2;simp at l;omega) (c.trans x),λl=>ab V _ ⟨x,λg w' o' S B A=>by
    rcases aW g k with u|u
    .exact W g w' o' u B A
    .have:g=k:=V;subst this;rw[i]at B;rw[v]at A;simp at B A;subst B;subst A;simp at p l;exact⟨hi,V⟩⟩⟩⟩
  refine⟨λp=>⟨λl=>bW (λa=>?_) (c.trans x),λl=>jV (Or.inr (by simp at l;omega))⟩,λp=>jV (Or.inl (yb Q p))⟩
  rcases(a.dB k w t i v).1 with u|u
  .exact nb Q p u
  .simp at l;omega
 .refine iV ⟨V,by rw[h];omega,by rw[h];omega,by rw[h];omega,by rw[h];omega,λg w o i z=>W g w o (oh (av i)) i z⟩ (c.trans N)
structure JI(a b:Nat)(m m':E):Prop where
 size:m.size<=m'.size
 same:∀c,c<m.size->c≠a->c≠b->m'[c]? =m[c]?
def JI.az(a b:Nat)(m:E):JI a b m m:=⟨ad _,λ_ _ _ _=>rfl⟩
def JI.ext{g:E}(h:JI a b m g)(f:J g d):JI a b m d:=⟨bI h.size f.size,λc e i j=>by rw[f.same c (aO e h.size)];exact h.same c e i j⟩
def JI.trans{j:E}(h:JI a b m j)(i:JI a b j d):JI a b m d:=⟨bI h.size i.size,λc g e f=>by rw[i.same c (aO g h.size) e f];exact h.same c g e f⟩
def JI.ah{d:E}(h:JI a b m d){c:Nat}(i:c=a\/c=b)(o:Nat)(l:List Ce):JI a b m (ah d c o l):=
 ⟨by rw[aw];exact h.size,λx j f g=>by rw[bd l d c o (by rcases i with e|e<;>rw[e]<;>assumption)];exact h.same x j f g⟩
def JI.va{f:E}(h:JI a b m f)(c:J i m)(g:i.size<=a)(j:i.size<=b):J i f:=
 ⟨bI c.size h.size,λd e=>by rw[h.same d (c.lt e) V V];exact c.same d e⟩
structure Xe(h:List bN)(f:aX):Prop where
 aR:∀(k:Nat)(w o:Int),f.ak[k]? =some w->f.aR[k]? =some o->0<o->fW h w
 aZ:∀w∈f.aZ,w≠0->1000<=w/\∃c,h[ix w]? =some c/\c.aQ<0
def Vs{w:Int}{n:Nat}(b:zD w)(f:n<=1000000000):(0<=cT (w -1000)/\cT (w -1000)<n)<->(1000<=w/\ix w<n):=by
 let⟨c,d⟩:=b;rcases Ji w (-9223372036854774808)with a|a
 .have e:cT (w -1000)=w -1000+18446744073709551616:=by
   unfold cT;rw[IntKind.wrap_i64];omega
  unfold ix;rw[e];constructor<;>intro h<;>omega
 .unfold ix;rw[aP V V];omega
structure Oq(m:E)(ob hb n:Nat)(fo fh:Nat->Int):Prop where
 aR:cJ m ob aA ((sZ n fo).map Ce.i)
 aZ:cJ m hb aA ((sZ n fh).map Ce.i)
 ne:ob≠hb
def MP{hp:O}{h:List bN}{p c:Nat}{l fh:Nat->Int}(x0:J i m)(hh:cR i hp h)(hr:ap i r f.ak)(B:ap i o f.aR)(he:ap i e f.aZ)(ai:i.size<=p)(ah:i.size<=c)(T:Oq m p c h.length l fh)
 (ag:So f)(ay:h.length<=1000000000)(au:f.ak.length=f.aR.length/\f.aZ.length=f.aR.length/\f.aR.length<=10000000)(aj:∀o∈f.aR,0<=o/\o<=999999)(ar:∀a,0<=l a/\l a<=1000000000000000)(an:∀a,0<=fh a/\fh a<=1000000000):
 aN cp 81 [.agg #[vi f.fw,vi f.pc,vi f.dst,O.v r,O.v o,O.v e],O.v hp,O.v (.mk p 0 h.length h.length),O.v (.mk c 0 h.length h.length)] m λv D=>
  ∃b:Bool,v=vb b/\(b=true<->Xe h f)/\(b=true->Oq D p c h.length (λa=>l a+dg f.ak f.aR a) (λa=>fh a+eD f.aZ a))/\JI p c m D:=by
 apply xe
 simp -zeta only[aC,aB]
 intro I
 have x1:J m I:=(J.az m).aK _
 have s1:I.size=m.size+1:=by simp[I]
 clear_value I
 have aJ:=hr.len
 have aH:=B.len
 have aF:=he.len
 have aG:=hh.len
 let⟨aA,aD,aE⟩:=au
 have aM:=T.aR.lt
 have aK:=T.aZ.lt
 simp -zeta only[O.gK,O.jI,O.nm,bV]
 have S:∀ac:Nat,Int.toNat (ac:Int)=ac:=λac=>V
 refine dW (n:=f.aR.length) V (λk D=>JI p c m D/\m.size<D.size/\Oq D p c h.length (λa=>l a+dg (f.ak.take k) (f.aR.take k) a) (λa=>fh a+eD (f.aZ.take k) a)/\(∀(j:Nat)(w o:Int),j<k->f.ak[j]? =some w->f.aR[j]? =some o->0<o->fW h w)/\
  (∀w∈f.aZ.take k,w≠0->1000<=w/\∃s,h[ix w]? =some s/\s.aQ<0)) ⟨(JI.az _ _ _).ext x1,V,by simpa[dg,eD]using(⟨T.aR.ext x1,T.aZ.ext x1,T.ne⟩:Oq I p c h.length l fh),λj w o hj=>absurd hj (eY _),aL⟩ ?_
 rintro k d az μ hk ⟨t2,z2,q,q2,p2⟩ am
 have Q:=t2.va x0 ai ah
 rw[S,eS]
 refine dit (λh1=>?_) λh1=>?_
 .let⟨w,u⟩:=cK f.ak k
  let⟨t,C⟩:=cK f.aR k
  let⟨v,y⟩:=cK f.aZ k
  have gw:∀{M:E},J i M->af M r.D (r.off+k)=some (vi w):=λH=>by simpa using(hr.ext H).aE u
  have gq:∀{M:E},J i M->af M o.D (o.off+k)=some (vi t):=λH=>by simpa using(B.ext H).aE C
  have gv:∀{M:E},J i M->af M e.D (e.off+k)=some (vi v):=λH=>by simpa using(he.ext H).aE y
  have al:=ag.2.2 v (aq y)
  have aI:=aj t (aq C)
  refine⟨V,V,t,gq Q,λM=>JI p c d M/\m.size<M.size/\Oq M p c h.length (λa=>l a+dg (f.ak.take (k+1)) (f.aR.take (k+1)) a) (λa=>fh a+eD (f.aZ.take k) a)/\(0<t->fW h w),⟨λW=>?_,λW=>?_⟩,?_⟩
  .have F:0<t:=by simpa using W
   refine⟨V,V,w,gw Q,(iB (cR.ext Q hh) (ag.1 w (aq u)).2).mono ?_⟩
   rintro _ m3 ⟨a,b3,rfl,N,U,z⟩
   have z3:=z.size
   refine⟨z.dy bF,a,b3,rfl,λx=>⟨false,rfl,?_,aL,t2.ext z⟩,λx=>?_⟩
   .simp only[jx,false_iff]
    exactλht=>nb N x (ht.aR k w t u C F)
   have L:=yb N x
   have P:=av (bS L).1
   have K:=U (by simpa using x)
   subst K
   have A:=q.aR.ext z
   have R:=q.aZ.ext z
   have q1:=Gp (ak:=f.ak.take k) (aR:=f.aR.take k) (n:=999999) V (λo B=>aj o (dC B)) (ix w)
   have X:(f.aR.take k).length<=10000000:=bF
   have Y:=ar (ix w)
   rw[S,eS]
   refine⟨V,V,_,tT A P,V,V,N4 A P,?_⟩
   rw[show cT (l (ix w)+dg (f.ak.take k) (f.aR.take k) (ix w)+t)=l (ix w)+dg (f.ak.take k) (f.aR.take k) (ix w)+t from aP V V]
   have G:=Jd A (ix w) (l (ix w)+dg (f.ak.take k) (f.aR.take k) (ix w)+t)
   rw[fE (g:=λa=>l a+dg (f.ak.take (k+1)) (f.aR.take (k+1)) a)]at G
   .exact⟨λb Z=>bd _ _ _ _ (by simp at Z;omega),((JI.az _ _ _).ext z).ah (Or.inl rfl) _ _,by rw[aw];omega,⟨G,R.congr (bd _ _ _ _ λe=>q.ne e.symm),q.ne⟩,λ_=>L⟩
   .intro b c
    rw[tD u C]
    by_cases e:b=ix w
    .subst e;rw[ao rfl,ao (iu L.1).symm];omega
    .rw[ae e,ae (λab=>e (by rw[ab,lL]))];omega
  .have F:t=0:=by simp at W;omega
   refine⟨JI.az _ _ _,z2,⟨?_,q.aZ,q.ne⟩,λhp=>V⟩
   rw[fE (g:=λa=>l a+dg (f.ak.take k) (f.aR.take k) a)]
   .exact q.aR
   .intro b c;rw[tD u C,F];split<;>omega
  rintro m3 ⟨t3,z3,z,ax⟩
  have F:=t2.trans t3
  have R:=F.va x0 ai ah
  have il:∀(j:Nat)(w o:Int),j<k+1->f.ak[j]? =some w->f.aR[j]? =some o->0<o->fW h w:=λj w' o' hj P N=>by
   rcases aW j k with A|A
   .exact q2 j w' o' A P N
   .have:j=k:=V;subst this;rw[u]at P;rw[C]at N;simp at P N;subst P;subst N;exact ax
  have aa:=Vs (n:=h.length) al ay
  refine⟨V,V,v,gv R,λx=>⟨V,V,v,gv R,?_⟩,λx=>?_⟩
  .have X:v≠0:=by simpa using x
   have ad:∀{M:E},JI p c m M->¬(1000<=v/\∃s,h[ix v]? =some s/\s.aQ<0)->∃b:Bool,vb false=vb b/\(b=true<->Xe h f)/\(b=true->Oq M p c h.length (λa=>l a+dg f.ak f.aR a) (λa=>fh a+eD f.aZ a))/\JI p c m M:=λht hn=>
    ⟨false,rfl,by simp only[jx,false_iff];exactλhk=>hn (hk.aZ v (aq y) X),aL,ht⟩
   refine⟨λL=>ad F λ⟨g1,s,g2,_⟩=>?_,λL=>⟨λY=>ad F λ⟨g1,s,g2,_⟩=>?_,λY=>?_⟩⟩
   .have:=(aa.2 ⟨g1,av g2⟩).1;simp at L;omega
   .have:=(aa.2 ⟨g1,av g2⟩).2;simp at Y;omega
   simp at L Y
   let⟨g1,g2⟩:=aa.1 ⟨L,V⟩
   have ew:cT (v -1000)=(ix v:Nat):=by have:=al.2;unfold ix;rw[aP V V];omega
   rw[ew,S]
   let⟨s,hc⟩:=dD g2
   obtain⟨cf,_,c0,_,_⟩:=(cR.ext R hh).aE hc
   refine⟨V,V,s.aQ,c0,λA=>ad F λ⟨_,c',U,g4⟩=>?_,λA=>?_⟩
   .rw[hc]at U;simp at U;subst U;simp at A;omega
   have q1:=an (ix v)
   have q2:=kK (f.aZ.take k) (ix v)
   have q3:=iL (f.aZ.take k) (ix v)
   have q4:(f.aZ.take k).length<=10000000:=bF
   rw[eS]
   refine⟨V,V,_,tT z.aZ g2,V,V,N4 z.aZ g2,?_⟩
   rw[show cT (fh (ix v)+eD (f.aZ.take k) (ix v)+1)=fh (ix v)+eD (f.aZ.take k) (ix v)+1 from aP V V]
   have G:=Jd z.aZ (ix v) (fh (ix v)+eD (f.aZ.take k) (ix v)+1)
   rw[fE (g:=λa=>fh a+eD (f.aZ.take (k+1)) a)]at G
   .refine⟨λb Z=>bd _ _ _ _ (by simp at Z;omega),am V _ ⟨F.ah (Or.inr rfl) _ _,by rw[aw];exact z3,⟨z.aR.congr (bd _ _ _ _ q.ne),G,q.ne⟩,il,bD y p2 λ_=>⟨g1,s,hc,by simp at A;omega⟩⟩⟩
   .intro b c
    rw[rD y]
    by_cases e:b=ix v
    .subst e;rw[ao rfl,ao (iu g1).symm];omega
    .rw[ae e,ae (λab=>e (by rw[ab,lL]))];omega
  .have X:v=0:=by simpa using x
   refine am V _ ⟨F,z3,⟨z.aR,?_,q.ne⟩,il,bD y p2 λG=>absurd X G⟩
   rw[fE (g:=λa=>fh a+eD (f.aZ.take k) a)]
   .exact z.aZ
   .intro b c;rw[rD y,ae V];omega
 .have t:f.ak.take k=f.ak:=bY V
  have x:f.aR.take k=f.aR:=bY V
  have K:f.aZ.take k=f.aZ:=bY V
  rw[t,x,K]at q
  rw[K]at p2
  exact⟨true,rfl,by simp only[true_iff];exact⟨λj w o u B=>q2 j w o (oh (av u)) u B,p2⟩,λ_=>q,t2⟩
end
section
def WY(a:List aX)(k:Nat)(f:aX):Prop:=(nL a k=none->f.dst=0)/\∀p,nL a k=some p->0<=f.dst/\f.dst<p.aR.length/\aE p.aR f.dst=0
structure Ti(im:cU)(s:St)(k:Nat)(f:aX):Prop where
 v:Sq im f
 dst:WY s.an k f
 Zx:Xe s.heap f
def Ti.ok{c:cU}{s:St}{k:Nat}{f:aX}(h:Ti c s k f):Ky c s.heap (nL s.an k) f:=
 ⟨h.v.fw,h.v.pc,h.v.lr,h.v.lo,h.v.lh,⟨λj w o b a=>⟨(h.v.dB j w o b a).1,(h.v.dB j w o b a).2,h.Zx.aR j w o b a⟩⟩,h.dst.1,h.dst.2⟩
def Nt.w{m:cU}{s:St}(h:Nt m s){k:Nat}{f:aX}(d:s.an[k]? =some f):Ti m s k f:=by
 have F:=h.an k f d;refine⟨⟨F.fw,F.pc,F.lr,F.lo,F.lh,λj w o b c=>⟨(F.ak.dB j w o b c).1,(F.ak.dB j w o b c).2.1⟩⟩,⟨F.first,F.next⟩,λj w o b c=>(F.ak.dB j w o b c).2.2,λw b q=>?_⟩;let⟨g,n⟩:=(h.aZ.cO f (aq d) w b).resolve_left q;let⟨e,i⟩:=dD n;refine⟨g,e,i,Int.not_le.1 λp=>?_⟩;have r:=h.aZ.nB _ e i p;have t:=PR (aq d) (b:=ix w);have u:=uK (l:=f.aZ) (f:=ix w) (by rw[iu g];exact b);omega
section
variable{m:E}{d p aT c b:O}{a:cU}{s:St}
def Ej(aS:fC m d p a)(a0:nE a)(Q:gH m aT c b s)(ab:zC s):dw cp 44 [.agg #[O.v d,O.v p],Nm s aT c b] m (cX a s):=by
 apply yL;simp -zeta only[aC,aB];intro m1 L;have x2:J m L:=((J.az m).aK _).aK _;have s1:m1.size=m.size+1:=by simp[m1]
 have s2:L.size=m.size+2:=by simp[L,s1]
 clear_value L;have hl:∀x∈[m1.size,m.size],x<L.size:=bF;have aQ:=Q.an.len;have a_:=Q.heap.len;have ba:=ab.lh;have t:∀{M:E},J L M->¬Nt a s->∃A:Bool,vb false=.bool A/\(A=true<->cX a s)/\J m M:=λhx I=>bW (λh=>I (Oy h)) (x2.trans hx);have ar:(s.an=[])<->((b.len:Int)=0):=by rw[aQ];simp
 refine⟨λM=>J L M/\(0<=s.cx/\s.cx<=3)/\(s.cx=0<->s.an=[])/\gR s.value/\(s.value≠0->s.cx=0),?_,?_⟩
 .refine⟨λy=>t (J.az _) λi=>by have:=i.cx;simp at y;omega,λy=>⟨λv=>t (J.az _) λi=>by have:=i.cx;simp at v;omega,λv=>⟨λF=>t (J.az _) λi=>?_,λF=>?_⟩⟩⟩
  .have:=i.done;rw[ar,<-FE]at this;rw[this]at F;cases F
  have ah:0<=s.cx/\s.cx<=3:=by simp at y v;omega
  have ag:s.cx=0<->s.an=[]:=by rw[ar];exact(FE _ _).1 F
  refine(qX _ _).aI (J.az _) hl λb3 m3 e C _=>⟨b3,rfl,λz=>t C λi=>nb e z i.value,λz=>⟨λf=>⟨λh=>t C λi=>?_,λh=>⟨C,ah,ag,yb e z,λ_=>by simpa using h⟩⟩,λf=>⟨C,ah,ag,yb e z,λh=>by simp at f;exact absurd f h⟩⟩⟩;have:=i.tY (by simpa using f);simp at h;exact h this
 rintro m3 ⟨C,ah,ag,hv,a3⟩;refine⟨λy=>t C λi=>by have:=i.dX;simp at y;omega,λy=>⟨λv=>t C λi=>by have:=i.dX;simp at v;omega,λv=>⟨λF=>t C λi=>by have:=i.bz;simp at F;omega,λF=>⟨λz=>t C λi=>by have:=i.bz;simp at z;omega,λz=>?_⟩⟩⟩⟩;have aV:0<=s.dX/\s.dX<=40:=by simp at y v;omega
 have aM:0<=s.bz/\s.bz<=s.dX:=by simp at F z;omega
 rw[aP V V];refine⟨λf=>t C λi=>by have:=i.depth;simp at f;omega,λf=>?_⟩;have aN:(s.an.length:Int)<=s.bz+1:=by simp at f;omega
 clear y v F z f;have X3:=x2.trans C;refine(Ct (Q.ext X3).heap ab.heap V).mono ?_;rintro _ m4 ⟨ct,b4,rfl,ao,a2,aF⟩;have x4:=C.trans aF;have z4:=x4.size;have z3:=C.size;refine⟨aF.dy λx H=>C.lt (hl x H),ct,b4,rfl,λy=>t x4 λi=>nb ao y i.heap,λy=>?_⟩;have ax:=yb ao y;obtain⟨ob,rfl,bb,B4⟩:=a2 (by simpa using y);have bf:=B4.lt;refine(jd (Q.ext (x2.trans x4)).aT 79 #[] #[] bh (λai=>¬gR ai) (λai _ m' hx=>?_)).aI x4 hl ?_
 .apply we;refine(qX _ _).then λx G H x5=>⟨x,rfl,eV ?_ x5⟩;rw[<-H];simp
 intro b5 G ap aG x5;have z5:=x5.size;have bg:=aG.size;refine⟨b5,rfl,λv=>t x5 λi=>?_,λv=>?_⟩
 .let⟨ai,hx,I⟩:=ap.1 v;exact I (i.aT ai hx)
 have a1:∀Z∈s.aT,gR Z:=λZ I=>dS λB=>by have:=ap.2 ⟨Z,I,B⟩;rw[v]at this;cases this
 have en:Int.toNat (c.len:Int)=s.heap.length:=V;rw[en];refine⟨V,V,V,V,?_⟩;intro R;have aH:J G R:=(J.az G).aK _;have s6:R.size=G.size+1:=by simp[R]
 have H6:cJ R G.size aA ((sZ s.heap.length (λ_=>0)).map Ce.i):=Mo G _;clear_value R;have x6:=x5.trans aH;have X6:=x2.trans x6;have T6:Oq R ob G.size s.heap.length (eA s.heap) (λ_=>0):=⟨B4.ext (aG.trans aH),H6,V⟩;have aY:m.size<=ob:=by have:=X3.size;omega
 have ak:∀Z:Nat,Int.toNat (Z:Int)=Z:=λZ=>V;have a9:s.an.length<=41:=V;have rb:∀e,0<=eA s.heap e/\eA s.heap e<=3*s.heap.length:=λe=>⟨rf _ _,Cf _ _ λo B=>(ax.cells o B).fl⟩;refine dW (n:=s.an.length) V (λj M=>JI ob G.size R M/\Oq M ob G.size s.heap.length (λe=>eA s.heap e+fD (s.an.take j) e) (λe=>dI (s.an.take j) e)/\∀(q:Nat)(l:aX),q<j->s.an[q]? =some l->Ti a s q l)
  ⟨JI.az _ _ _,by simpa[fD,dI]using T6,λq l K=>absurd K (eY _)⟩ ?_
 rintro j W a8 μ i ⟨t7,N,al⟩ a4
 have x7:J L W:=t7.va x6 V V;have P:=x2.trans x7;have bd:∀x∈[m1.size,m.size],x<W.size:=λx H=>x7.lt (hl x H);have z7:=x7.size;have be:=N.aR.lt;have bc:=N.aZ.lt;rw[ak];refine dit (λF=>?_) λF=>?_
 .let⟨l,r⟩:=cK s.an j;have au:=aq r;let⟨a6,a5,ac,hr,ho,U,g0,g1,g2,g3,g4,g5⟩:=Q.an.aE r;refine⟨V,V,_,P.af g0,_,P.af g1,_,P.af g2,a6,P.af g3,a5,P.af g4,ac,P.af g5,?_⟩;intro X Y;have T:J W Y:=((J.az W).aK _).ah (ad _) _ _;have s9:Y.size=W.size+1:=by simp[Y,X,aw]
  clear_value Y;have X9:=P.trans T;have l9:∀x∈[W.size,m1.size,m.size],x<Y.size:=bF;refine(Ee (aS.ext X9) (hr.ext X9) (ho.ext X9) (U.ext X9)).aI (J.az _) l9 λaJ w am D _=>⟨aJ,rfl,λz=>t ((x7.trans T).trans D) λi=>nb am z (i.w r).v,λz=>?_⟩;have hV:=yb am z;have S:=(x7.trans T).trans D;have ae:=x2.trans S;refine⟨λM=>w=M/\WY s.an j l,?_,?_⟩
  .have ay:(cT ((j:Int) -1)=((j -1:Nat):Int))\/j=0:=by
    rcases km j with f|f
    .exact Or.inr f
    .exact Or.inl (by rw[aP V V];omega)
   have jV:0<j->((decide (l.dst<(0:Int)))=true->∃A:Bool,vb false=.bool A/\(A=true<->cX a s)/\J m w)/\((decide (l.dst<(0:Int)))=false->
    (0:Int)<=(cT ((j:Int) -(1:Int)))/\(cT ((j:Int) -(1:Int)))<(b.len:Int)/\
    ∃aa:O,af w b.D (b.off+Int.toNat (cT ((j:Int) -(1:Int)))*6+4)=some (O.v aa)/\
    ((decide (l.dst>=(aa.len:Int)))=true->∃A:Bool,vb false=.bool A/\(A=true<->cX a s)/\J m w)/\
    ((decide (l.dst>=(aa.len:Int)))=false->(0:Int)<=(cT ((j:Int) -(1:Int)))/\(cT ((j:Int) -(1:Int)))<(b.len:Int)/\
    ∃u:O,af w b.D (b.off+Int.toNat (cT ((j:Int) -(1:Int)))*6+4)=some (O.v u)/\
    (0:Int)<=l.dst/\l.dst<(u.len:Int)/\∃aj:Int,af w u.D (u.off+Int.toNat l.dst*1)=some (vi aj)/\
    ((aj !=(0:Int))=true->∃A:Bool,vb false=.bool A/\(A=true<->cX a s)/\J m w)/\((aj !=(0:Int))=false->w=w/\WY s.an j l))):=λaL=>by
    have e1:=ay.resolve_right V
    rw[e1,ak]
    obtain⟨q,rfl⟩:∃q,j=q+1:=⟨j -1,V⟩
    have ej:q+1 -1=q:=V
    rw[ej]
    let⟨pf,aj⟩:=cK s.an q
    let⟨pr,po,pe,aO,an,aI,y0,y1,y2,y3,y4,y5⟩:=Q.an.aE aj
    have aK:=an.len
    have aa:nL s.an (q+1)=some pf:=aj
    refine⟨λf=>t S λi=>?_,λf=>⟨V,V,po,ae.af y4,λh=>t S λi=>?_,λh=>⟨V,V,po,ae.af y4,by simpa using f,by simp at h;omega,aE pf.aR l.dst,?_,λu=>t S λi=>?_,λu=>⟨rfl,⟨λI=>(by rw[aa]at I;cases I),λaD hq=>?_⟩⟩⟩⟩⟩
    .have:=((i.w r).dst.2 pf aa).1;simp at f;omega
    .have:=((i.w r).dst.2 pf aa).2.1;simp at h;omega
    .simp at f h
     exact(an.ext ae).pJ f V
    .have:=((i.w r).dst.2 pf aa).2.2;simp at u;exact u this
    .rw[aa]at hq;simp at hq;subst hq
     simp at f h u;exact⟨f,V,u⟩
   refine⟨λf=>⟨λh=>t S λaz=>?_,λh=>⟨λu=>by simp at f u;omega,λu=>⟨rfl,⟨λ_=>by simpa using h,λaD hq=>?_⟩⟩⟩⟩,λf=>⟨λh=>jV (by simp at h;omega),λh=>by simp at f h;omega⟩⟩
   .simp at f;subst f;have:=(az.w r).dst.1 rfl;simp at h;exact h this
   .simp at f;subst f;simp[nL]at hq
  .rintro _ ⟨rfl,hD⟩;have aU:=ab.lr l au;have v1:=hV.lr;have v2:=hV.lo;have v3:=hV.lh;have vH:=D.size;have aI:Oq w ob G.size s.heap.length (λe=>eA s.heap e+fD (s.an.take j) e) (λe=>dI (s.an.take j) e):=⟨N.aR.ext (T.trans D),N.aZ.ext (T.trans D),N.ne⟩;have aR:∀e,0<=eA s.heap e+fD (s.an.take j) e/\eA s.heap e+fD (s.an.take j) e<=1000000000000000:=λe=>by
    have q1:=rb e;have q2:=Kr (a:=s.an.take j) (n:=10000000) (k:=999999) V (λaa u=>⟨(ab.lr aa (dC u)).2.1,by
     let⟨q,K⟩:=List.mem_iff_getElem?.1 u;have aj:q<j:=by have:=av K;simp at this;omega
     rw[dJ aj]at K;exact(al q aa aj K).v.aR⟩) e
    have q3:(s.an.take j).length<=41:=bF;omega
   have aO:∀e,0<=dI (s.an.take j) e/\dI (s.an.take j) e<=1000000000:=λe=>by
    have q2:=Lc (a:=s.an.take j) (n:=10000000) (λaa u=>(ab.lr aa (dC u)).2.2) e;have q3:(s.an.take j).length<=41:=bF;have q4:=vS (s.an.take j) e;omega
   refine(MP (i:=m) ae Q.heap hr ho U aY V aI (ab.an l au) V ⟨V,V,aU.2.1⟩ hV.aR aR aO).mono ?_;rintro _ ay ⟨aK,rfl,an,aL,az⟩;have aD:JI ob G.size R ay:=(t7.ext (T.trans D)).trans az;have a7:J L ay:=aD.va x6 V V;refine⟨λx H=>az.same x (D.lt (l9 x H)) (by simp at H;omega) (by simp at H;omega),aK,rfl,λf=>t a7 λi=>nb an f (i.w r).Zx,λf=>a4 V _ ⟨aD,?_,λq aa K u=>?_⟩⟩
   .have aj:=aL (by simpa using f);refine⟨?_,?_,aj.ne⟩
    .rw[fE (g:=λe=>eA s.heap e+fD (s.an.take j) e+dg l.ak l.aR e)]
     .exact aj.aR
     .intro x H;rw[NP r];omega
    .rw[fE (g:=λe=>dI (s.an.take j) e+eD l.aZ e)]
     .exact aj.aZ
     .intro x H;rw[Ld r]
   .rcases aW q j with h|h
    .exact al q aa h u
    .have:q=j:=V;subst this;rw[r]at u;simp at u;subst u;exact⟨hV,hD,yb an f⟩
 rw[bY V]at N;have hW:∀(q:Nat)(l:aX),s.an[q]? =some l->Ti a s q l:=λq l r=>al q l (oh (av r)) r;refine dW (n:=s.heap.length) V (λj M=>J W M/\∀(e:Nat)(o:bN),e<j->s.heap[e]? =some o->(0<o.aQ->o.aQ=eA s.heap e+fD s.an e)/\(o.aQ<0->dI s.an e=1)) ⟨J.az _,λe o ha=>absurd ha (eY _)⟩ ?_;rintro u X I2 μ2 au ⟨x8,aj⟩ an;have X8:=P.trans x8;rw[ak];refine dit (λz=>?_) λz=>?_
 .have ae:u<s.heap.length:=V;let⟨o,aa⟩:=dD ae;obtain⟨l,_,g0,g1,g2⟩:=Q.heap.aE aa;refine⟨λM=>J X M/\(0<o.aQ->o.aQ=eA s.heap u+fD s.an u)/\(o.aQ<0->dI s.an u=1),?_,?_⟩
  .refine⟨V,V,_,X8.af g0,_,X8.af g1,l,X8.af g2,?_⟩;intro Y w;have D:J X w:=((J.az X).aK _).ah (ad _) _ _;clear_value w;have S:=(x7.trans x8).trans D;have go:=tT (N.aR.ext (x8.trans D)) ae;have gh:=tT (N.aZ.ext (x8.trans D)) ae;simp -zeta only[O.gK,O.jI,O.nm,bV,eS];have aZ:(0<o.aQ->o.aQ=eA s.heap u+fD s.an u)->((decide (o.aQ<(0:Int)))=true->(0:Int)<=u/\(u:Int)<(s.heap.length:Int)/\∃am:Int,af w G.size u=some (vi am)/\
    ((am !=(1:Int))=true->∃A:Bool,vb false=.bool A/\(A=true<->cX a s)/\J m w)/\((am !=(1:Int))=false->J X w/\(0<o.aQ->o.aQ=eA s.heap u+fD s.an u)/\(o.aQ<0->dI s.an u=1)))/\
    ((decide (o.aQ<(0:Int)))=false->J X w/\(0<o.aQ->o.aQ=eA s.heap u+fD s.an u)/\(o.aQ<0->dI s.an u=1)):=λB=>
    ⟨λf=>⟨V,V,_,gh,λh=>t S λi=>by have:=i.aZ.lB u o aa (by simpa using f);simp at h;exact h this,λh=>⟨D,B,λ_=>by simpa using h⟩⟩,λf=>⟨D,B,λh=>by simp at f;omega⟩⟩
   refine⟨λf=>⟨V,V,_,go,λh=>t S λi=>?_,λh=>aZ λ_=>by simpa using h⟩,λf=>aZ λh=>by simp at f;omega⟩;have:=i.QT u o aa (by simpa using f);simp at h;exact h this
  .rintro Y ⟨T,w,D⟩;refine an V _ ⟨x8.trans T,λe ac ha U=>?_⟩;rcases aW e u with h|h
   .exact aj e ac h U
   .have:e=u:=V;subst this;rw[aa]at U;simp at U;subst U;exact⟨w,D⟩
 .refine iV (Ml ⟨a0,ah,ag,hv,a3,aV,aM,aN,a1,ax,λq l r=>(hW q l r).ok,⟨λl r w h=>?_,λS o B I=>(aj S o (oh (av B)) B).2 I,λS o B I=>?_⟩,λe o B c=>(aj e o (oh (av B)) B).1 c⟩) X8
  .let⟨q,K⟩:=wg r;by_cases D:w=0
   .exact Or.inl D
   .obtain⟨y,o,v,_⟩:=(hW q l K).Zx.aZ w h D;exact Or.inr ⟨y,av v⟩
  .refine Lf λl r w h ac=>?_;let⟨q,K⟩:=wg r;let⟨y,D,v,F⟩:=(hW q l K).Zx.aZ w h V;rw[ac,lL,B]at v;simp at v;subst v;omega
def Ea(k:fC m d p a)(r:gH m aT c b s)(q:zC s):dw cp 21 [.agg #[O.v d,O.v p],Nm s aT c b] m (cX a s):=by
 apply yE;simp -zeta only[aC,aB];intro i e;have f:J m e:=((J.az m).aK _).aK _;have t:i.size=m.size+1:=by simp[i]
 have x:e.size=m.size+2:=by simp[e,t]
 clear_value e;have l:∀n∈[i.size,m.size],n<e.size:=bF;refine(D0 (k.ext f)).aI (J.az _) l λb3 v j g _=>⟨b3,rfl,λh=>?_,λh=>bW (λo=>fb j h o.fe) (f.trans g)⟩;refine(Ej (k.ext (f.trans g)) (j.1 h) (r.ext (f.trans g)) q).aI g l λb4 w o y u=>⟨b4,rfl,eV o (f.trans u)⟩
end
end
end Go.Proofs.YtkoifinbblcbiaaGreat
section
namespace Go.Vc
def fR.kV{m:E}{b o:Nat}{l r:List Ce}(h:fR m b o l)(k:fR m b (o+l.length) r):fR m b o (l++r):=λi d a=>by
 rcases aW i l.length with c|c
 .rw[ax c]at a;exact h i d a
 .rw[aJ c]at a;have:=k _ d a;rwa[show o+l.length+(i -l.length)=o+i by omega]at this
def eU.Uj{α:Type}{m:E}{c:Nat}{R:List Ce->α->Prop}{s:O}{l:List α}(h:eU m c R s l)(j:∀d x,R d x->d.length=c):∃a,gV c R a l/\fR m s.D s.off a.flatten:=by
 have:∀k,k<=l.length->∃a,gV c R a (l.take k)/\fR m s.D s.off a.flatten:=by
  intro k;induction k with
  |zero=>intro _;exact⟨[],by simpa using gV.nil c R,λi e b=>by simp at b⟩
  |succ k o=>
   intro p;let⟨a,b,e⟩:=o V;let⟨x,g⟩:=cK l k;let⟨d,f,i⟩:=h.iJ k x g;refine⟨a++[d],by rw[aU g];exact b.yQ (j d x f) f,?_⟩;rw[qR];refine e.kV ?_;have n:a.flatten.length=k*c:=by rw[cw b.size,b.len,gP,jq V]
   rw[n];simpa using i
 let⟨a,b,e⟩:=this l.length (ad _);rw[fB]at b;exact⟨a,b,e⟩
end Go.Vc
namespace Go.Proofs.YtkoifinbblcbiaaGreat
open Go.Vc
variable{m:E}{s:O}{d:Nat->Nat}{N:Nat}{h:List bN}
def ic.DH{a:E}{l:List Ce}{e n:Nat}(f:ic m a e n s l)(j:J m a)(i:∀b,m.size<=b->d b=0)(k:Nat):∃c,dq (λ_=>False) d m c a/\iP c a e n k s l/\∀b,c b=d b\/c b=k:=by
 rcases f.aE with h|⟨b,g,tail,h,h2,h3,h4,h5⟩
 .exact⟨d,dq.eI _ j i,iP.gB f λo=>absurd h o,λb=>Or.inl rfl⟩
 .refine⟨oG d b k,dq.oG j i h2 h3.lt k,iP.gB f λ_=>by rw[h];exact fJ _ _ _,λg=>?_⟩;by_cases e:g=b
  .rw[e];exact Or.inr (fJ _ _ _)
  .exact Or.inl (eW e)
def Iy{z:O}(L:∀b,m.size<=b->d b=0)(H:∀b,b<m.size->d b≠3)(y:cR m z h)(hN:N<=m.size)(K:∀c∈h,c.aF.length<=3)(ac:h.length<=1000000000):
 aN cp 67 [O.v z] m λY l=>∃e s,Y=O.v s/\dN N e l s h/\dq (λk=>k=3) d m e l/\J m l:=by
 apply CJ
 intro A
 have Z:J m A:=(J.az m).aK _
 clear_value A
 have hl:=y.len
 have X:∀{e:Nat->Nat}{M:E},dq (λk=>k=3) d m e M->J m M:=λc=>⟨c.size,λb a=>c.eC b a (H b a)⟩
 refine eB (σ:=O) (n:=h.length) V (λk s M=>∃e,dN N e M s (h.take k)/\dq (λk=>k=3) d m e M) ⟨d,⟨[],⟨aL,aL,Or.inl rfl⟩,by simpa using gV.nil _ _,XD.nil⟩,dq.eI _ Z L⟩ ?_
 rintro k s T aa μ hk ⟨i,f,a⟩ U
 have v:=X a
 have en:Int.toNat (k:Int)=k:=V
 rw[en]
 refine dit (λG=>?_) λG=>?_
 .let⟨c,j⟩:=cK h k
  let⟨F,I,w,g1,g2⟩:=(cR.ext v y).aE j
  have ab:=K c (aq j)
  refine⟨V,V,c.aQ,w,V,V,c.kD,g1,V,V,F,g2,(gW I V).mono ?_⟩
  rintro _ g ⟨q,rfl,o,r⟩
  refine⟨q,rfl,r.de g1,r.de w,?_⟩
  intro b
  have t:J g b:=(J.az g).aK _
  have S:cJ b g.size mw [.i c.aQ,.i c.kD,.s q]:=cJ.push g _ _
  clear_value b
  have p:=r.trans t
  have C:dq (λ_=>False) i T i b:=dq.eI _ p a.new
  have u:dq (λk=>k=3) d m i b:=a.trans (dq.eI _ p a.new)
  have R:ap b q c.aF:=(ap.gB o V).ext t
  have Q:c.aF≠[]->i q.D=0:=λP=>a.new _ ((FB.gB o P).1)
  have hz:=a.size
  refine dN.push (f.eJ C id id) u.new (x:=.mk g.size 0 1 1) rfl S.iJ R (Rt.of f (λB=>p.same _ (f.D B).2) (λ_=>o.ext t) Q V) bF λW ad m5 D B=>?_
  exact U V _ _ ⟨W,by rw[aU j];exact D,u.trans B⟩
 .rw[bY V]at f
  exact⟨i,s,rfl,f,a,v⟩
structure ZI(N:Nat)(d:Nat->Nat)(m:E)(r:O)(h:List bN)(css0 css:List (List Ce))(k:Nat):Prop where
 qv:iP d m mw 3 3 r css.flatten
 len:css.length=h.length
 size:∀cs∈css,cs.length=3
 done:∀(j:Nat)(cs:List Ce)(c:bN),j<k->css[j]? =some cs->h[j]? =some c->yd N d m cs c
 jV:∀j,k<=j->css[j]? =css0[j]?
 sep:∀(i j:Nat)(ci cj:List Ce)(a b:O),i<k->j<k->css[i]? =some ci->css[j]? =some cj->ci[2]? =some (.s a)->cj[2]? =some (.s b)->i≠j->a.len≠0->b.len≠0->a.D≠b.D
def Ay{a:List (List Ce)}{n:Nat}(d:s.len=n)(g:a.length=n)(k:∀b∈a,b.length=3)(j:fR m s.D s.off a.flatten)(t:n<=1000000000):
 aN cp 94 [O.v s] m λv c=>∃r,v=O.v r/\ic m c mw 3 r a.flatten/\J m c:=by
 apply np
 refine⟨λh=>?_,λh=>?_⟩
 .cases s with
  |nil=>simp at d;have:a=[]:=List.length_eq_zero_iff.1 V;subst this;exact⟨.nil,rfl,ic.nil _ _ _ _,J.az _⟩
  |mk b o f e=>simp at h
  |zT b o e=>simp at h
 .intro e
  have b:J m e:=(J.az m).aK _
  have i:ic m e mw 3 (.mk m.size 0 0 0) []:=ic.new (J.az m) mw 3 [] 0 aL
  refine ic.append (zs:=[.i 0,.i 0,.s .nil]) (d:=a.flatten) i b (by rw[cw k,g,d];rfl) (b.iJ j) bF λr c b f l o p q=>⟨r,rfl,by simpa using b,f⟩
def FY{hp:O}(hn:∀b,m.size<=b->d b=0)(h3:∀b,b<m.size->d b≠3)(hh:cR m hp h)(hN:N<=m.size)(ay:∀c∈h,c.aF.length<=3)(aA:h.length<=1000000000):
 aN cp 57 [O.v hp] m λaF m'=>∃W s,aF=O.v s/\dN N W m' s h/\dq (λk=>k=3) d m W m'/\J m m':=by
 apply Ab
 simp -zeta only[aC,aB]
 have hl:=hh.len
 let⟨aa,u,jC⟩:=hh.Uj (λz an⟨af,e,_⟩=>by rw[e];rfl)
 refine(Ay hl u.len u.size jC aA).mono ?_
 rintro _ m1 ⟨y,rfl,or,x1⟩
 obtain⟨g,C1,X,_⟩:=ic.DH or x1 hn 3
 have aK:y.len=h.length:=by have:=X.len;rw[cw u.size,u.len]at this;omega
 refine⟨y,rfl,?_⟩
 have aE:∀{W:Nat->Nat}{M:E},dq (λk=>k=3) d m W M->J m M:=λc=>⟨c.size,λb l=>c.eC b l (h3 b l)⟩
 refine dW (n:=h.length) V (λk M=>∃i,ZI N g M y h aa i k/\dq (λk=>k=3) d m g M) ⟨aa,⟨X,u.len,u.size,λj _ _ p=>absurd p (eY _),λ_ _=>rfl,λB _ _ _ _ _ D=>absurd D (eY _)⟩,C1.mono λ_=>False.elim⟩ ?_
 rintro k F aG μ hk ⟨i,a,v⟩ aD
 have X2:=aE v
 have en:Int.toNat (k:Int)=k:=V
 rw[en]
 refine dit (λR=>?_) λR=>?_
 .have ak:k<h.length:=V
  let⟨c,T⟩:=dD ak
  let⟨af,hf,g0,g1,g2⟩:=(cR.ext X2 hh).aE T
  have aJ:=ay c (aq T)
  refine⟨V,V,c.aQ,g0,c.kD,g1,af,g2,?_⟩
  intro m3 G
  have x4:J F G:=((J.az F).aK _).ah (ad _) _ _
  have s4:G.size=F.size+1:=by simp[G,m3,aw]
  clear_value G
  refine(eO (hf.ext x4) V).mono ?_
  rintro _ H ⟨q,rfl,oq,x5⟩
  have K:dq (λ_=>False) g F g H:=dq.eI _ (x4.trans x5) v.new
  have Y:=a.qv.eJ K id
  have aH:=a.len
  have ai:k*3+2+1<=i.flatten.length:=by rw[cw a.size];have:(k+1)*3<=i.length*3:=di _ V;omega
  let⟨z,U⟩:=cK i k
  let⟨ae,ag⟩:=cK aa k (by rw[u.len];exact ak)
  have ao:z=ae:=by have:=a.jV k (ad _);rw[U,ag]at this;simpa using this
  let⟨f0,ar,aI⟩:=u.dB k ae c ag T
  rw[ao,ar]at U
  have ax:y.cap≠0:=λe=>by have:=X.le;omega
  have rb:=Y.D ax
  have c6:∀am,dq (λk=>k=3) g H g (ah H y.D (y.off+(k*3+2)) am):=λam=>dq.ah K.new rb.2 _ _
  have au:g F.size=0:=v.new _ (ad _)
  refine⟨x5.dy bF,q,rfl,V,V,?_⟩
  rw[dk]
  refine⟨Y.wr ai,?_⟩
  intro m6
  have I:=c6 [.s q]
  have ab:c.aF≠[]->g q.D=0/\G.size<=q.D:=λx=>by
   have:=(FB.gB oq x).1;exact⟨v.new _ V,this⟩
  have iq:ap H q c.aF:=ap.gB oq V
  have L6:yd N g m6 [.i c.aQ,.i c.kD,.s q] c:=yd.eJ I bh _ _ ⟨q,rfl,iq,λx=>⟨(ab x).1,OS ((ab x).2) v.size,(FB.gB oq x).2⟩⟩
  have ac:(i.set k [.i c.aQ,.i c.kD,.s q])[k]? =some [.i c.aQ,.i c.kD,.s q]:=dt (av U)
  refine⟨(I.mono λk hk=>by omega:To g H g m6).dy (by simp;exact⟨by have:=x5.size;omega,au⟩),aD V _ ⟨i.set k [.i c.aQ,.i c.kD,.s q],⟨?_,by simpa using a.len,λZ w=>?_,λj Z Q p w hd=>?_,λj p=>?_,?_⟩,(v.trans (K.mono λ_=>False.elim)).trans I⟩⟩
  .have:=Y.set (o:=k*3+2) (new:=[.s q]) ai
   rw[Cm i k _ 2 [.s q] a.size U aL]at this
   exact this
  .rcases cF w with f|f
   .exact a.size Z f
   .rw[f];rfl
  .rcases aW j k with f|f
   .rw[cv V]at w
    exact yd.eJ I bh _ _ (yd.eJ K id _ _ (a.done j Z Q f w hd))
   .have:j=k:=V
    subst this
    rw[ac]at w
    simp at w;subst w
    rw[T]at hd;simp at hd;subst hd;exact L6
  .rw[cv V];exact a.jV j V
  .have al:∀(j:Nat)(r:List Ce)(b:O),j<k->i[j]? =some r->r[2]? =some (.s b)->q.len≠0->b.len≠0->q.D≠b.D:=λj r b p t l f C=>by
    let⟨Q,hd⟩:=cK h j;obtain⟨b',e,ib,_⟩:=a.done j r Q p t hd;rw[e]at l;simp at l;subst l;have x:Q.aF≠[]:=λe=>by have:=ib.len;rw[e]at this;simp at this;exact C this
    have az:c.aF≠[]:=λe=>by have:=iq.len;rw[e]at this;simp at this;exact f this
    have:=iO ib x;have:=(ab az).2;omega
   intro B j P r L b D p A t S l aj f C
   by_cases ik:B=k
   .subst ik
    rw[ac]at A
    rw[cv aj]at t
    simp at A;subst A;simp at S;subst S
    exact al j r b V t l f C
   .rw[cv (λe=>ik e.symm)]at A
    by_cases jk:j=k
    .subst jk
     rw[ac]at t
     simp at t;subst t;simp at l;subst l
     exact kO (al B P L V A S C f)
    .rw[cv (λe=>jk e.symm)]at t
     exact a.sep B j P r L b V V A t S l aj f C
 .have e:∀{j:Nat}{z:List Ce},i[j]? =some z->j<k:=λp=>by have:=av p;have:=a.len;omega
  exact⟨g,y,rfl,⟨i,a.qv,⟨a.len,a.size,λj z an R f=>a.done j z an (e R) R f⟩,λB j P r L b D p=>a.sep B j P r L b (e D) (e p) D p⟩,v,X2⟩
end Go.Proofs.YtkoifinbblcbiaaGreat
end
namespace Go.Proofs.YtkoifinbblcbiaaGreat
open Go.Vc
section
variable{a g:Nat->Nat}{m h e:E}{p:Nat->Prop}{s:St}{d:List (List Ce)}
structure Bs(e:E)(a:Nat->Nat)(m:E):Prop where
 cz:J e m
 jZ:∀b,b<e.size->a b=0
 new:∀b,m.size<=b->a b=0
structure pE(e:E)(a:Nat->Nat)(m:E)(aT hp fr:O)(s:St):Prop where
 bs:Bs e a m
 aT:iP a m aA 1 2 aT (s.aT.map Ce.i)
 heap:dN e.size a m hp s.heap
 an:nR a m fr s.an
structure zI(s:St):Prop where
 aT:s.aT.length<=900000000
 fl:∀c∈s.heap,c.aF.length<=3
 heap:s.heap.length<=900000000
 depth:s.an.length<=1000
 an:∀f∈s.an,f.ak.length<=1000000/\f.aR.length<=1000000/\f.aZ.length<=1000000
def VB(e:E)(a:Nat->Nat)(m:E)(s:St)(v:Value)(h:E):Prop:=∃g aT c b,v=Nm s aT c b/\pE e g h aT c b s/\dq (λ_=>False) a m g h
abbrev WW:=dq (λk=>2<=k)
def WW.none(c:WW a m g h)(e:∀b,b<m.size->a b<=1):dq (λ_=>False) a m g h:=⟨c.size,c.gZ,c.new,λb d _=>c.eC b d (oh (e b d))⟩
def dq.va(b:dq (λ_=>False) a m g h):J m h:=⟨b.size,λc d=>b.eC c d id⟩
def Bs.eJ(B:Bs e a m)(b:dq (λ_=>False) a m g h):Bs e g h:=⟨B.cz.trans b.va,λc d=>by rw[b.gZ c (B.cz.lt d)];exact B.jZ c d,b.new⟩
def dq.aae(e:dq p a m g h){l:List Nat}(d:∀b∈l,b<m.size/\¬p (a b)):eH l m h:=λb c=>e.eC b (d b c).1 (d b c).2
structure UC(e:E)(a:Nat->Nat)(m:E)(g:Nat->Nat)(M:E)(q r:O)(s:St):Prop where
 eJ:WW a m g M
 aT:iP g M aA 1 2 q (s.aT.map Ce.i)
 heap:dN e.size g M r s.heap
def UC.kC{i j:Nat->Nat}{f g:E}{q r:O}(h:UC e a m i f q r s)(d:dq p i f j g)(c:∀k,p k->4<=k):UC e a m j g q r s:=
 ⟨h.eJ.trans (d.mono λk b=>oh (c k b)),h.aT.eJ d λb=>oh (c _ b),h.heap.eJ d (λb=>oh (c _ b)) λb=>oh (c _ b)⟩
def yP{s:O}{n:Nat}(c:s.len=n)(g:d.length=n)(k:∀a∈d,a.length=6)(j:fR m s.D s.off d.flatten)(t:n<=1000000000):
 aN cp 58 [O.v s] m λv h=>∃r,v=O.v r/\ic m h dR 6 r d.flatten/\J m h:=by
 apply mR
 refine⟨λb=>?_,λb=>?_⟩
 .cases s with
  |nil=>simp at c;have:d=[]:=List.length_eq_zero_iff.1 V;subst this;exact⟨.nil,rfl,ic.nil _ _ _ _,J.az _⟩
  |mk a o f e=>simp at b
  |zT a o e=>simp at b
 .intro e
  have a:J m e:=(J.az m).aK _
  have i:ic m e dR 6 (.mk m.size 0 0 0) []:=ic.new (J.az m) dR 6 [] 0 aL
  refine ic.append (zs:=[.i 0,.i 0,.i 0,.s .nil,.s .nil,.s .nil]) (d:=d.flatten) i a (by rw[cw k,g,c];rfl) (a.iJ j) bF λr h a f l o p q=>⟨r,rfl,by simpa using a,f⟩
structure ZG(a:Nat->Nat)(m:E)(r:O)(fs:List aX)(css0 d:List (List Ce))(k:Nat):Prop where
 qv:iP a m dR 6 4 r d.flatten
 len:d.length=fs.length
 size:∀cs∈d,cs.length=6
 done:∀(j:Nat)(cs:List Ce)(f:aX),j<k->d[j]? =some cs->fs[j]? =some f->Th a m j cs f
 jV:∀j,k<=j->d[j]? =css0[j]?
def Ri{k o:Nat}{a:List Ce}{x:Ce}(e:∀a∈d,a.length=6)(b:d[k]? =some a)(g:o<6):jm d.flatten (k*6+o) [x]=(d.set k (a.set o x)).flatten/\(∀c∈d.set k (a.set o x),c.length=6)/\(d.set k (a.set o x))[k]? =some (a.set o x):=by
 refine⟨Cm d k a o [x] e b bF,λc f=>?_,dt (av b)⟩;rcases cF f with h|h
 .exact e c h
 .rw[h,ez];exact e a (aq b)
def Ed{aT hp w:O}(al:Bs e a m)(az:∀c,a c<=1)(T:gH m aT hp w s)(ae:zI s):aN cp 32 [Nm s aT hp w] m (VB e a m s):=by
 apply yG;simp -zeta only[aC,aB];intro h A;have s1:h.size=m.size+1:=by simp[h]
 have s2:A.size=m.size+2:=by simp[A,s1]
 have x2:J m A:=((J.az m).aK _).aK _;obtain⟨G,ao⟩:∃G,G=oG (oG a m.size 8) h.size 8:=⟨_,rfl⟩;have C2:dq (λ_=>False) a m G A:=by
  rw[ao];exact(dq.oG (m':=h) (k:=8) ((J.az m).aK _) al.new (ad _) V).trans (dq.oG (m':=A) (k:=8) ((J.az h).aK _) (λc hb=>by rw[eW V];exact al.new c V) (ad _) V)
 have r0:G m.size=8/\G h.size=8:=by rw[ao];exact⟨by rw[eW V,fJ],fJ _ _ _⟩
 have a2:∀c,G c=8\/G c<=1:=λc=>by
  rw[ao];unfold oG;split
  .exact Or.inl rfl
  .split
   .exact Or.inl rfl
   .exact Or.inr (az c)
 have aZ:cJ A h.size iD [.i 0,.i 0,.i 0,.i 0,.s .nil,.s .nil,.s .nil]:=cJ.push h _ _;have bq:cJ A m.size iD [.i s.cx,.i s.value,.i s.bz,.i s.dX,.s aT,.s hp,.s w]:=(cJ.push m _ _).ext (J.push h _);clear_value A;clear ao;have hN:=al.cz.size;have bo:=ae.aT;have bn:=ae.heap;have bj:=ae.depth;refine(eO (T.aT.ext x2) V).mono ?_;rintro _ m3 ⟨ai,rfl,oq,H⟩;let⟨ba,C3,A3,a3⟩:=ic.DH oq H C2.new 2;have z3:=H.size;have kp:∀{M M':E},J M M'->m.size<M.size->∀i,af M' m.size i=af M m.size i:=λhx ac i=>aH (hx.same _ ac) i;have X3:=x2.trans H;refine⟨H.dy bF,ai,rfl,kp H V _,kp H V _,(FY (N:=e.size) C3.new (λc _=>OS (a3 c) (a2 c)) (T.ext X3).heap V ae.fl V).mono ?_⟩;rintro _ m4 ⟨bb,aj,rfl,H4,Y,x4⟩;have z4:=x4.size;have X4:=X3.trans x4;have K4:UC e a m bb m4 ai aj s:=⟨((C2.trans C3).mono λ_=>False.elim:WW a m ba m3).trans (Y.mono λb R=>V),A3.eJ Y bh,H4⟩;have aY:=T.an.len;let⟨an,q,jC⟩:=(T.ext X4).an.Uj (λQ ak⟨_,_,_,t,_⟩=>by rw[t];rfl);refine⟨x4.dy bF,aj,rfl,kp x4 V _,(yP aY q.len q.size jC V).mono ?_⟩;rintro _ m5 ⟨fc,rfl,of,x5⟩;let⟨u,K,A5,br⟩:=ic.DH of x5 Y.new 4;have z5:=x5.size;have K5:=K4.kC K λ_=>False.elim;refine⟨x5.dy bF,fc,rfl,?_⟩;intro m6 m7 F;have r5:u m.size=8/\u h.size=8:=⟨by rw[K.gZ _ V,Y.gZ _ V,C3.gZ _ V];exact r0.1,by rw[K.gZ _ V,Y.gZ _ V,C3.gZ _ V];exact r0.2⟩;have C8:dq (λb=>b=8) u m5 u F:=((dq.ah K.new (show(λb=>b=8) (u m.size)from r5.1) _ _).trans (dq.ah (by rw[aw];exact K.new) (show(λb=>b=8) (u m.size)from r5.1) _ _)).trans (dq.ah (by rw[aw,aw];exact K.new) (show(λb=>b=8) (u m.size)from r5.1) _ _);have K8:UC e a m u F ai aj s:=K5.kC C8 λb R=>V;have A8:iP u F dR 6 4 fc an.flatten:=A5.eJ C8 bh;have a0:cJ F h.size iD [.i 0,.i 0,.i 0,.i 0,.s .nil,.s .nil,.s .nil]:=((aZ.ext (H.trans (x4.trans x5))).congr (by
  show(ah (ah (ah m5 m.size 4 _) m.size 5 _) m.size 6 _)[h.size]? =_;rw[bd _ _ _ _ V,bd _ _ _ _ V,bd _ _ _ _ V]))
 have s8:F.size=m5.size:=by simp[F,m7,m6,aw]
 clear_value F;have bm:fc.len=s.an.length:=by have:=A8.len;rw[cw q.size,q.len]at this;omega
 refine dW (n:=s.an.length) V (λb M=>∃g d,UC e a m g M ai aj s/\ZG g M fc s.an an d b/\m5.size<=M.size/\g m.size=8/\g h.size=8/\cJ M h.size iD [.i 0,.i 0,.i 0,.i 0,.s .nil,.s .nil,.s .nil])
  ⟨u,an,K8,⟨A8,q.len,q.size,λy _ _ hj=>absurd hj (eY _),λ_ _=>rfl⟩,V,r5.1,r5.2,a0⟩ ?_
 rintro b l bc μ R ⟨B,d,Z,f,z9,r9,aJ,a1⟩ a6
 have en:Int.toNat (b:Int)=b:=V;rw[en];have aQ:∀{g:Nat->Nat}{M:E},WW a m g M->J m M:=λaO=>(aO.none λc _=>az c).va;refine dit (λh1=>?_) λh1=>?_
 .have aI:b<s.an.length:=V;let⟨j,hf⟩:=dD aI;have bk:=ae.an j (aq hf);let⟨aP,ab⟩:=cK an b (by rw[q.len];exact aI);let⟨ra,oa,ha,e0,ir,io,ih⟩:=q.dB b aP j ab hf;have aG:d[b]? =some [.i j.fw,.i j.pc,.i j.dst,.s ra,.s oa,.s ha]:=by rw[f.jV b (ad _),ab,e0]
  have S:∀(i:Nat)(ak:Ce),[Ce.i j.fw,.i j.pc,.i j.dst,.s ra,.s oa,.s ha][i]? =some ak->af l fc.D (fc.off+b*6+i)=some ak.v:=λi ak hx=>by
   have:=f.qv.iJ (b*6+i) ak (fY f.size aG hx);rwa[<-dk]at this
  obtain⟨r',o',h',jr,jo,jh,_,_,_,y3,y4,y5⟩:=T.an.aE hf;have X9:=aQ Z.eJ;have er:r'=ra/\o'=oa/\h'=ha:=by
   obtain⟨bf,⟨be,b1,c1,e1,_⟩,bp⟩:=T.an.iJ b j hf;have g3:af m4 w.D (w.off+b*6+3)=some (O.v ra):=by
    have:=jC (b*6+3) (.s ra) (fY q.size ab (by rw[e0];rfl));rwa[<-dk]at this
   have g4:af m4 w.D (w.off+b*6+4)=some (O.v oa):=by
    have:=jC (b*6+4) (.s oa) (fY q.size ab (by rw[e0];rfl));rwa[<-dk]at this
   have g5:af m4 w.D (w.off+b*6+5)=some (O.v ha):=by
    have:=jC (b*6+5) (.s ha) (fY q.size ab (by rw[e0];rfl));rwa[<-dk]at this
   rw[X4.af y3]at g3;rw[X4.af y4]at g4;rw[X4.af y5]at g5;exact⟨O.BR.1 (jS g3),O.BR.1 (jS g4),O.BR.1 (jS g5)⟩
  obtain⟨rfl,rfl,rfl⟩:=er;refine⟨V,V,_,S 0 _ rfl,_,S 1 _ rfl,_,S 2 _ rfl,_,S 3 _ rfl,_,S 4 _ rfl,_,S 5 _ rfl,?_⟩;intro aA U;have ar:J l U:=((J.az l).aK _).ah (ad _) _ _;have bw:U.size=l.size+1:=by simp[U,aA,aw]
  clear_value U;have aF:dq (λ_=>False) B l (oG B l.size 8) U:=dq.oG ar Z.eJ.new (ad _) V 8;refine(eO (jr.ext (X9.trans ar)) V).mono ?_;rintro _ bs ⟨qr,rfl,a7,v⟩;obtain⟨bu,ay,aK,_⟩:=ic.DH a7 v aF.new (10+3*b);have bz:=v.size;have p:∀{M M':E}{c:Nat},J M M'->c<M.size->∀i,af M' c i=af M c i:=λhx ac i=>aH (hx.same _ ac) i;have bl:∀{M:E},U.size<=M.size->∀c∈[l.size,m.size,h.size],c<M.size:=λbg c hb=>by simp at hb;omega
  refine⟨v.dy (bl (ad _)),qr,rfl,p v V _,p v V _,p v V _,p v V _,p v V _,(eO (jo.ext (X9.trans (ar.trans v))) V).mono ?_⟩;rintro _ bt ⟨qo,rfl,a8,C⟩;obtain⟨bv,am,aL,_⟩:=ic.DH a8 C ay.new (11+3*b);have bA:=C.size;refine⟨C.dy (bl V),qo,rfl,p C V _,p C V _,p C V _,p C V _,(eO (jh.ext (X9.trans (ar.trans (v.trans C)))) V).mono ?_⟩;rintro _ aD ⟨qh,rfl,a9,X⟩;obtain⟨r,D,aM,_⟩:=ic.DH a9 X am.new (12+3*b);have bB:=X.size;have L:dq (λ_=>False) B l r aD:=((aF.trans ay).trans am).trans D;have P:r l.size=8/\r m.size=8/\r h.size=8:=⟨by rw[D.gZ _ V,am.gZ _ V,ay.gZ _ V];exact fJ _ _ _,by rw[L.gZ _ V];exact r9,by rw[L.gZ _ V];exact aJ⟩;have A9:=f.qv.eJ L id;have aX:fc.cap≠0:=λt=>by have:=f.qv.le;omega
  have W:=A9.D aX;have a_:fc.D≠m.size/\fc.D≠h.size/\fc.D≠l.size:=⟨λt=>by have:=W.2;rw[t,P.2.1]at this;omega,λt=>by have:=W.2;rw[t,P.2.2]at this;omega,λt=>by have:=W.2;rw[t,P.1]at this;omega⟩;have bi:=f.len;have uG:∀z,z<6->b*6+z+1<=d.flatten.length:=λz ho=>by rw[cw f.size];have:(b+1)*6<=d.length*6:=di _ V;omega
  have sm:∀{M:E}(z:Nat)(ag:List Ce),eH [l.size,m.size,h.size] M (ah M fc.D z ag):=λz ag c hb=>bd _ _ _ _ (by simp at hb;omega);have gg:∀{M:E}(z:Nat)(ag:List Ce)(i:Nat),af (ah M fc.D z ag) m.size i=af M m.size i:=λz ag i=>aH (bd _ _ _ _ (λt=>a_.1 t.symm)) i;refine⟨X.dy (bl V),qh,rfl,p X V _,p X V _,p X V _,V,V,?_⟩;simp -zeta only[dk];refine⟨A9.wr (uG 3 bh),?_⟩;let⟨e1,f1,aS⟩:=Ri (x:=.s qr) (o:=3) f.size aG bh;have au:=A9.set (o:=b*6+3) (new:=[.s qr]) (uG 3 bh);rw[e1]at au;intro a4;let⟨e2,f2,aU⟩:=Ri (x:=.s qo) (o:=4) f1 aS bh;have ax:=au.set (o:=b*6+4) (new:=[.s qo]) (by have:=uG 4 bh;rw[cw f.size]at this;rw[cw f1,ez];exact this);rw[e2]at ax;refine⟨sm _ _,gg _ _ _,gg _ _ _,V,V,au.wr (by have:=uG 4 bh;rw[cw f.size]at this;rw[cw f1,ez];exact this),?_⟩;intro a5;let⟨e3,f3,aV⟩:=Ri (x:=.s qh) (o:=5) f2 aU bh;have aE:=ax.set (o:=b*6+5) (new:=[.s qh]) (by have:=uG 5 bh;rw[cw f.size]at this;rw[cw f2,ez,ez];exact this);rw[e3]at aE;refine⟨sm _ _,gg _ _ _,V,V,ax.wr (by have:=uG 5 bh;rw[cw f.size]at this;rw[cw f2,ez,ez];exact this),?_⟩;intro ap;have I:dq (λb=>b=4) r aD r ap:=((dq.ah D.new (show(λb=>b=4) (r fc.D)from W.2) _ _).trans (dq.ah (by rw[aw];exact D.new) (show(λb=>b=4) (r fc.D)from W.2) _ _)).trans (dq.ah (by rw[aw,aw];exact D.new) (show(λb=>b=4) (r fc.D)from W.2) _ _);have bx:ap.size=aD.size:=by simp[ap,a5,a4,aw]
  have tf:Th r ap b [.i j.fw,.i j.pc,.i j.dst,.s qr,.s qo,.s qh] j:=⟨qr,qo,qh,rfl,(((aK.eJ am id).eJ D id).eJ I V),(aL.eJ D id).eJ I V,aM.eJ I V⟩;refine⟨sm _ _,a6 V _ ⟨r,_,(Z.kC L λ_=>False.elim).kC I λb R=>V,⟨aE,by simp;exact f.len,f3,λy Q aR hj aa hg=>?_,λy hj=>?_⟩,V,P.2.1,P.2.2,(a1.ext L.va).congr (I.eC _ V (by rw[P.2.2];decide))⟩⟩
  .rcases aW y b with h5|h5
   .rw[cv V,cv V,cv V]at aa;exact((f.done y Q aR h5 aa hg).eJ L λ_ _ _=>id).eJ I λb R _=>V
   .have:y=b:=V;subst this;rw[aV]at aa;simp at aa;subst aa;rw[hf]at hg;simp at hg;subst hg;exact tf
  .rw[cv V,cv V,cv V];exact f.jV y V
 .intro aA;have r:dq (λb=>b=8) B l B aA:=dq.ah Z.eJ.new (show(λb=>b=8) (B h.size)from aJ) _ _;have p:=Z.kC r λb R=>V;have ac:∀{y:Nat}{Q:List Ce},d[y]? =some Q->y<b:=λhj=>by have:=av hj;have:=f.len;omega
  have v:nR B l fc s.an:=⟨d,f.qv,f.len,f.size,λi Q j h1 t=>f.done i Q j (ac h1) h1 t⟩;have D:=p.eJ.none λc _=>az c;exact⟨B,ai,aj,fc,rfl,⟨al.eJ D,p.aT,p.heap,v.eJ r λb R=>V⟩,D⟩
end
section
variable{d:Nat->Nat}{e:E}
abbrev z7:List Ce:=[.i 0,.i 0,.i 0,.i 0,.s .nil,.s .nil,.s .nil]
structure Nu(m0:E)(ro:Nat->Nat)(m m2:E)(s:St)(ro':Nat->Nat)(M:E)(q r:Option O)(ob:Option Nat):Prop where
 eJ:WW ro m ro' M
 ext:J m2 M
 Zu:r=none->∀b,ro' b≠3
 box:∀b,m.size<=b->b<m2.size->ro' b=8
 aT:∀x,q=some x->iP ro' M aA 1 2 x (s.aT.map Ce.i)
 heap:∀x,r=some x->dN m0.size ro' M x s.heap
 ob:∀x,ob=some x->m2.size<=x/\ro' x=8/\cJ M x iD z7
section
variable{h:E}{i:Nat->Nat}{m g:E}{s:St}{f:Nat->Nat}{M:E}{q r:Option O}{j:Option Nat}
def Nu.il(k:Nu h i m g s f M q r j)(n:dq (λa=>a=3) f M d e)(p:J M e)(C:∀b,m.size<=b->b<g.size->d b=8){u o:Option O}{t:Option Nat}(z:r=none\/dq (λ_=>False) f M d e)(B:o=none->∀b,d b≠3)
 (w:∀x,u=some x->q=some x\/iP d e aA 1 2 x (s.aT.map Ce.i))(y:∀x,o=some x->r=some x\/dN h.size d e x s.heap)(A:∀x,t=some x->j=some x\/(g.size<=x/\d x=8/\cJ e x iD z7)):Nu h i m g s d e u o t:=
 ⟨k.eJ.trans (n.mono λa c=>V),k.ext.trans p,B,C,λx c=>(w x c).elim (λa=>(k.aT x a).eJ n bh) id,
  λx c=>(y x c).elim (λa=>z.elim (λl=>by rw[l]at a;cases a) λl=>(k.heap x a).eJ l id id) id,
  λx c=>(A x c).elim (λa=>by
   let⟨v,b,l⟩:=k.ob x a;exact⟨v,by rw[n.gZ _ l.lt];exact b,l.ext p⟩) id⟩
def Nu.RU(a:Nu h i m g s f M q r j){p:Nat->Prop}(l:dq p f M d e):∀b,m.size<=b->b<g.size->d b=8:=λb k c=>by rw[l.gZ b (a.ext.lt c)];exact a.box b k c
def Nu.c(b:Nu h i m g s f M none r j){x:O}(n:ic M e aA 1 x (s.aT.map Ce.i))(k:J M e):∃d,Nu h i m g s d e (some x) r j:=by
 let⟨d,C,A,l⟩:=ic.DH n k b.eJ.new 2;exact⟨d,b.il (C.mono λ_=>False.elim) k (b.RU C) (Or.inr C) (λa c=>OS (l c) (b.Zu a c)) (λy a=>Or.inr (by simp at a;subst a;exact A)) (λy a=>Or.inl a) λy a=>Or.inl a⟩
def Nu.a(b:Nu h i m g s f M q r j)(c:J M e):Nu h i m g s f e q r j:=
 have C:dq (λ_=>False) f M f e:=dq.eI _ c b.eJ.new
 b.il (C.mono λ_=>False.elim) c (b.RU C) (Or.inr C) b.Zu (λy a=>Or.inl a) (λy a=>Or.inl a) λy a=>Or.inl a
def Nu.b(b:Nu h i m g s f M q r none){e:E}(a:e=M.push (.cells (bu z7) iD)):∃d,Nu h i m g s d e q r (some M.size):=by
 have l:J M e:=by rw[a];exact J.push _ _
 have C:dq (λ_=>False) f M (oG f M.size 8) e:=dq.oG l b.eJ.new (ad _) (by rw[a];simp) 8;refine⟨_,b.il (C.mono λ_=>False.elim) l (b.RU C) (Or.inr C) (λn c=>?_) (λy a=>Or.inl a) (λy a=>Or.inl a) λy j=>Or.inr ?_⟩
 .by_cases k:c=M.size
  .rw[k,fJ];decide
  .rw[eW k];exact b.Zu n c
 .simp at j;subst j;exact⟨b.ext.size,fJ _ _ _,by rw[a];exact cJ.push _ _ _⟩
end
def p7{w:E}{u:Nat->Nat}{a:E}{aT hp fr:O}{s:St}(aj:Bs w u a)(au:∀c,u c<=1)(hs:gH a aT hp fr s)(ag:zI s):aN cp 35 [Nm s aT hp fr] a (VB w u a s):=by
 apply AO;simp -zeta only[aC,aB];intro v i;have s1:v.size=a.size+1:=by simp[v]
 have s2:i.size=a.size+2:=by simp[i,s1]
 have x2:J a i:=((J.az a).aK _).aK _;obtain⟨d,an⟩:∃d,d=oG (oG u a.size 8) v.size 8:=⟨_,rfl⟩;have C2:dq (λ_=>False) u a d i:=by
  rw[an];exact(dq.oG (m':=v) (k:=8) ((J.az a).aK _) aj.new (ad _) V).trans (dq.oG (m':=i) (k:=8) ((J.az v).aK _) (λc K=>by rw[eW V];exact aj.new c V) (ad _) V)
 have r0:d a.size=8/\d v.size=8:=by rw[an];exact⟨by rw[eW V,fJ],fJ _ _ _⟩
 have I:Nu w u a i s d i none none none:=by
  refine⟨C2.mono λ_=>False.elim,J.az _,λ_ c=>?_,λc h1 h2=>?_,aL,aL,aL⟩
  .rw[an];unfold oG;split
   .decide
   .split
    .decide
    .have:=au c;omega
  .rcases aW c v.size with h|h
   .have:c=a.size:=V;subst this;exact r0.1
   .have:c=v.size:=V;subst this;exact r0.2
 clear_value i;clear an;have hN:=aj.cz.size;have a_:=ag.aT;have a9:=ag.heap;have a6:=ag.depth;have cC:∀{b:Nat->Nat}{M:E}{j:Option O}{l:Option Nat}{Z:Value->E->Prop},Nu w u a i s b M none j l->(∀A g F,Nu w u a i s F g (some A) j l->J M g->M.size<=g.size->Z (O.v A) g)->aN cp 66 [O.v aT] M Z:=λh hK=>
  (gW (hs.aT.ext (x2.trans h.ext)) V).mono λ_ g⟨A,p,z,y⟩=>by
   let⟨F,h'⟩:=h.c z y;rw[p];exact hK A g F h' y y.size
 have cH:∀{b:Nat->Nat}{M:E}{q:Option O}{l:Option Nat}{Z:Value->E->Prop},Nu w u a i s b M q none l->(∀A g F,Nu w u a i s F g q (some A) l->J M g->M.size<=g.size->Z (O.v A) g)->aN cp 67 [O.v hp] M Z:=λ{b M q l Z} h hK=>
  (Iy (N:=w.size) h.eJ.new (λc _=>h.Zu rfl c) (hs.ext (x2.trans h.ext)).heap (oh h.ext.size) ag.fl V).mono λ_ g⟨F,A,p,aP,ak,y⟩=>by
   rw[p];exact hK A g F (h.il ak y (h.RU ak) (Or.inl rfl) (λp=>by cases p) (λe p=>Or.inl p) (λe p=>Or.inr (by simp at p;subst p;exact aP)) λe p=>Or.inl p) y y.size
 have kp:∀{M g:E},J M g->i.size<=M.size->∀L,af g a.size L=af M a.size L:=λy aA L=>aH (y.same _ V) L;refine⟨λz M=>z.2=0/\∃b q j fb,UC w u a b M q j s/\i.size<=z.1/\i.size<=M.size/\b z.1=8/\b a.size=8/\b v.size=8/\cJ M z.1 iD [.i s.cx,.i s.value,.i s.bz,.i s.dX,.s q,.s j,.s (.mk fb 0 0 0)],?_,?_⟩
 .have iQ:∀{b:Nat->Nat}{M:E}{q j:O}{l fb:Nat},Nu w u a i s b M (some q) (some j) (some l)->(λ(z:Nat×Nat) M=>z.2=0/\∃b q j fb,UC w u a b M q j s/\i.size<=z.1/\i.size<=M.size/\b z.1=8/\b a.size=8/\b v.size=8/\cJ M z.1 iD [.i s.cx,.i s.value,.i s.bz,.i s.dX,.s q,.s j,.s (.mk fb 0 0 0)]) (l,0) (ah M l 0 [.i s.cx,.i s.value,.i s.bz,.i s.dX,.s q,.s j,.s (.mk fb 0 0 0)]):=λ{b M q j l fb} h=>by
   let⟨G,c,ar⟩:=h.ob l rfl;have ak:dq (λe=>e=8) b M b (ah M l 0 [.i s.cx,.i s.value,.i s.bz,.i s.dX,.s q,.s j,.s (.mk fb 0 0 0)]):=dq.ah h.eJ.new c _ _;exact⟨rfl,b,q,j,fb,(⟨h.eJ,h.aT q rfl,h.heap j rfl⟩:UC w u a b M q j s).kC ak λe hk=>V,G,by rw[aw];exact h.ext.size,c,h.box _ V V,h.box _ V V,cJ.ah (m:=M) (o:=0) ar⟩
  have t:i.size<=i.size:=ad _;repeat' first
   |exact iQ I
   |(refine cC I ?_;intro A g F I B C;have D:=t;have t:=bI t C)
   |(refine cH I ?_;intro A g F I B C;have D:=t;have t:=bI t C)
   |(intro C;have B:J _ C:=(J.az _).aK _;have H:Array.size C=_+1:=Array.size_push _;have D:=t;have t:=bI t B.size;first|(obtain⟨F,I⟩:=I.b (e:=C) rfl;clear_value C)|(have I:=I.a B;clear_value C))
   |(refine And.intro (kp B D _) ?_)
   |(refine And.intro (J.dy B λc K=>by simp at K;omega) ?_)
   |(refine⟨_,rfl,?_⟩)
   |(refine And.intro ?_ ?_)
 .rintro⟨l,oo⟩ m3 ⟨rfl,a4,q,j,fb,K3,aS,z3,r3,a1,a2,aE⟩;simp only[]at aS r3 aE;have aQ:∀{b:Nat->Nat}{M:E},WW u a b M->J a M:=λar=>(ar.none λc _=>au c).va;have a8:=hs.an.len;simp -zeta only[bV];refine dW (n:=s.an.length) V (λe M=>∃b fc,UC w u a b M q j s/\nR b M fc (s.an.take e)/\i.size<=M.size/\b l=8/\b a.size=8/\b v.size=8/\cJ M l iD [.i s.cx,.i s.value,.i s.bz,.i s.dX,.s q,.s j,.s fc])
   ⟨a4,_,K3,⟨[],⟨aL,aL,Or.inl rfl⟩,aL,aL,aL⟩,z3,r3,a1,a2,aE⟩ ?_
  rintro e D a5 μ hk ⟨W,fc,K9,F9,z9,r9,a3,aG,C⟩ aX
  have en:Int.toNat (e:Int)=e:=V;rw[en];have H:=aQ K9.eJ;have ba:=C.lt;refine dit (λh1=>?_) λh1=>?_
  .have aR:e<s.an.length:=V;let⟨ae,hf⟩:=dD aR;have a7:=ag.an ae (aq hf);let⟨ra,oa,ha,ir,io,ih,g0,g1,g2,g3,g4,g5⟩:=hs.an.aE hf;refine⟨V,V,_,H.af g0,_,H.af g1,_,H.af g2,ra,H.af g3,oa,H.af g4,ha,H.af g5,?_⟩;intro av aa;have ai:J D aa:=((J.az D).aK _).ah (ad _) _ _;have bg:aa.size=D.size+1:=by simp[aa,av,aw]
   clear_value aa;have ay:dq (λ_=>False) W D (oG W D.size 8) aa:=dq.oG ai K9.eJ.new (ad _) V 8;have t:∀{M g:E}{c:Nat},J M g->c<M.size->∀L,af g c L=af M c L:=λy aA L=>aH (y.same _ aA) L;have bl:∀{M:E},aa.size<=M.size->∀c∈[D.size,v.size,a.size],c<M.size:=λh c K=>by simp at K;omega
   refine⟨fc,(C.ext ai).cg 6,(gW (ir.ext (H.trans ai)) V).mono ?_⟩;rintro _ bb ⟨qr,rfl,aY,B⟩;obtain⟨be,ap,aJ,_⟩:=ic.DH aY B ay.new (10+3*e);have bj:=B.size;refine⟨B.dy (bl (ad _)),qr,rfl,t B V _,t B V _,t B V _,t B V _,t B V _,t B V _,(gW (io.ext (H.trans (ai.trans B))) V).mono ?_⟩;rintro _ bc ⟨qo,rfl,aZ,P⟩;obtain⟨bf,al,aK,_⟩:=ic.DH aZ P ap.new (11+3*e);have bk:=P.size;refine⟨P.dy (bl V),qo,rfl,t P V _,t P V _,t P V _,t P V _,t P V _,(gW (ih.ext (H.trans (ai.trans (B.trans P)))) V).mono ?_⟩;rintro _ S ⟨qh,rfl,a0,X⟩;obtain⟨U,ab,aM,_⟩:=ic.DH a0 X al.new (12+3*e);have bm:=X.size;refine⟨X.dy (bl V),qh,rfl,t X V _,t X V _,t X V _,t X V _,?_⟩;intro T;have aI:J S T:=(J.az S).aK _;have bh:T.size=S.size+1:=by simp[T]
   have aV:cJ T S.size dR [.i ae.fw,.i ae.pc,.i ae.dst,.s qr,.s qo,.s qh]:=cJ.push S _ _;clear_value T;have ac:dq (λ_=>False) U S U T:=dq.eI _ aI ab.new;have Y:dq (λ_=>False) W D U T:=(((ay.trans ap).trans al).trans ab).trans ac;have Q:U D.size=8/\U a.size=8/\U v.size=8/\U l=8:=⟨by rw[ab.gZ _ V,al.gZ _ V,ap.gZ _ V];exact fJ _ _ _,by rw[Y.gZ _ V];exact a3,by rw[Y.gZ _ V];exact aG,by rw[Y.gZ _ V];exact r9⟩;have tk:(s.an.take e).length=e:=bF;refine⟨t aI V _,nR.push (a:=ae) (F9.eJ Y λ_ _=>id) ac.new (x:=.mk S.size 0 1 1) rfl aV.iJ (by rw[tk];exact(((aJ.eJ al id).eJ ab id).eJ ac id)) (by rw[tk];exact(aK.eJ ab id).eJ ac id) (by rw[tk];exact aM.eJ ac id) V λR az ao aO G=>?_⟩;have bn:=G.size;have am:R D.size=8/\R a.size=8/\R v.size=8/\R l=8:=⟨by rw[G.gZ _ V];exact Q.1,by rw[G.gZ _ V];exact Q.2.1,by rw[G.gZ _ V];exact Q.2.2.1,by rw[G.gZ _ V];exact Q.2.2.2⟩;have aD:cJ ao l iD [.i s.cx,.i s.value,.i s.bz,.i s.dX,.s q,.s j,.s fc]:=(C.ext Y.va).congr (G.eC _ V (by rw[Q.2.2.2];decide));refine⟨G.aae λc K=>by simp at K;rcases K with p|p|p<;>rw[p]<;>refine⟨V,?_⟩<;>simp[Q.1,Q.2.1,Q.2.2.1],aD.fL aL,?_⟩;intro aF;have ax:dq (λe=>e=8) R ao R aF:=dq.ah G.new (show(λe=>e=8) (R l)from am.2.2.2) _ _;have bi:aF.size=ao.size:=aw _ _ _ _;refine⟨λc K=>bd _ _ _ _ (by simp at K;omega),aX V _ ⟨R,az,((K9.kC Y λ_=>False.elim).kC G λe hk=>V).kC ax λe hk=>V,?_,V,am.2.2.2,am.2.1,am.2.2.1,cJ.ah (m:=ao) (o:=6) (r:=[.s az]) aD⟩⟩;rw[aU hf];exact aO.eJ ax λe hk=>V
  .rw[bY V]at F9;refine⟨_,C.cg 0,_,C.cg 1,_,C.cg 2,_,C.cg 3,_,C.cg 4,_,C.cg 5,_,C.cg 6,?_⟩;intro av;have B:dq (λe=>e=8) W D W av:=dq.ah K9.eJ.new (show(λe=>e=8) (W v.size)from aG) _ _;have t:=K9.kC B λe hk=>V;have G:=t.eJ.none λc _=>au c;exact⟨W,q,j,fc,rfl,⟨aj.eJ G,t.aT,t.heap,F9.eJ B λe hk=>V⟩,G⟩
end
section
variable{n e:Nat}{m2 mx M a:E}
def tZ:St:=⟨0,0,0,0,[],[],[]⟩
structure Zn where
 s:St
 ok:Bool
open Classical in
noncomputable def uO (b:cU) (s:St) (a:Int):Zn:=if cX b s/\0<=a/\a<=100000 then⟨aD b a.toNat s,true⟩else⟨tZ,false⟩
def Vp(a:cU)(s:St):kC a s=aD a 1 s:=rfl
def NX{a:cU}{s:St}:uO a s 1=(open Classical in if cX a s then⟨kC a s,true⟩else⟨tZ,false⟩):=by
 unfold uO;rcases dT (cX a s)with h|h
 .rw[ao ⟨h,bh,bh⟩,ao h];rfl
 .rw[ae λb=>h b.1,ae h]
def cX.ju{j:cU}{s:St}(h:cX j s)(b:Sm n s)(o:n<=900000000):zI s:=by
 refine⟨by have:=b.aT;omega,λc e=>(h.heap.cell c e).fl,oh b.heap,?_,λf g=>?_⟩
 .have:=h.depth;have:=h.bz;have:=h.dX;omega
 .have a:=h.an f g;obtain⟨p,_,i,d,_⟩:=a.yg h.fe;have k:=a.lr;have l:=a.lo;have m:=a.lh;rw[i]at k l m;have:=d.ak;omega
def zC.sm{s:St}(h:zC s)(a:s.heap.length<=n)(b:s.aT.length<=n):Sm n s:=⟨a,b,λg c w d=>((h.an g c).1 w d).2⟩
section
variable{b:E}{c:Nat->Nat}{m:E}{aT f d:O}{s:St}
def pE.Eo(h:pE b c m aT f d s)(a:zI s):gH m aT f d s:=
 ⟨h.aT.nV (oh a.aT),h.heap.cells (oh a.heap),h.an.Eo (oh a.depth) a.an⟩
def pE.cV(h:pE b c m aT f d s)(j:J m m2){a:Nat}{g:List Ce}(i:m.size<=a)(kb:cJ m2 a e g):vJ b (oG c a 1) m2 a e g aT f d s.aT s.heap s.an:=by
 have C:dq (λ_=>False) c m (oG c a 1) m2:=dq.oG j h.bs.new i kb.lt 1;have B:=h.bs.eJ C;exact⟨B.cz,B.jZ,B.new,kb,fJ _ _ _,h.aT.eJ C id,h.heap.eJ C id id,h.an.eJ C λ_ _=>id⟩
def pE.nil{b m:E}(a:J b m):pE b (λ_=>0) m .nil .nil .nil tZ:=
 ⟨⟨a,λ_ _=>rfl,λ_ _=>rfl⟩,⟨by simp[tZ],aL,Or.inl rfl⟩,⟨[],⟨aL,aL,Or.inl rfl⟩,by simpa[tZ]using gV.nil _ _,XD.nil⟩,nR.none⟩
def vJ.Eo{h e:Nat}{a:List Ce}(L:vJ b c m h e a aT f d s.aT s.heap s.an)(g:zI s):gH m aT f d s:=
 pE.Eo (c:=c) ⟨⟨L.cz,L.jZ,L.new⟩,L.aT,L.heap,L.an⟩ g
end
def Xb(m:E)(x:Zn)(v:Value)(c:E):Prop:=∃d aT b a,v=.tuple #[Nm x.s aT b a,vb x.ok]/\pE m d c aT b a x.s
def iP.up{a:Nat->Nat}{m d:E}{f k:Nat}{s:O}{l:List Ce}(h:iP a m e f k s l)(j:k≠0)(g:∀b,b<mx.size->a b=0)(i:∀b,mx.size<=b->b<m.size->d[b]? =m[b]?):iP a d e f k s l:=
 h.eC (λc=>i _ (Hx λn=>j (by rw[<-(h.D c).2];exact g _ n)) (h.D c).1) λ_=>rfl
def pE.Rc{m:E}{q:Nat->Nat}{aT p n:O}{s:St}(h:pE mx q M aT p n s)(y:m.size<=mx.size)(z:M.size<=a.size)(c:∀b,mx.size<=b->b<M.size->a[b]? =M[b]?)(w:J m a):pE m q a aT p n s:=by
 have d:=h.bs.jZ;refine⟨⟨w,λb f=>d b V,λb f=>h.bs.new b V⟩,h.aT.up bh d c,?_,?_⟩
 .let⟨g,r,a2,a3⟩:=h.heap;refine⟨g,r.up bh d c,a2.mono λj x⟨i,u,k,l⟩=>⟨i,u,iX k λf=>c _ (l f).2.1 (iO k f),λf=>?_⟩,a3⟩;let⟨g1,g2,t,tail,v,o⟩:=l f;exact⟨g1,V,t,tail,v,o.congr (c _ g2 o.lt)⟩
 .let⟨g,f⟩:=h.an;exact⟨g,f.qv.up bh d c,f.len,f.size,λr j i k l=>by
   let⟨u,t,o,e,b1,b2,b3⟩:=f.dB r j i k l;exact⟨u,t,o,e,b1.up V d c,b2.up V d c,b3.up V d c⟩⟩
def pE.box{m:E}{d:Nat->Nat}{aT b a:O}{s:St}(h:pE mx d M aT b a s)(c:J m mx){nb:Nat}(e:m.size<=nb)(g:nb<mx.size)(o:Nat)(l:List Ce):pE m d (ah M nb o l) aT b a s:=
 h.Rc c.size (ue (aw _ _ _ _).symm) (λf i _=>bd _ _ _ _ V) ((c.trans h.bs.cz).ah e _ _)
def pE.ext{e:E}{f:Nat->Nat}{aT d c:O}{s:St}(h:pE e f M aT d c s)(b:J M a):pE e f a aT d c s:=h.Rc (ad _) b.size (λg _ i=>b.same g i) (h.bs.cz.trans b)
def Bs.yO(m:E):Bs m (λ_=>0) m:=⟨J.az _,λ_ _=>rfl,λ_ _=>rfl⟩
section
variable{m:E}{d p aT j i:O}{h:cU}{s:St}
def Sj{m:E}{nb:Nat}(c:J m m2)(a:J m2 M)(b:m.size<=nb){x:Zn}(d:x=⟨tZ,false⟩)(l:List Ce):Xb m x (.tuple #[.agg #[vi (0:Int),vi (0:Int),vi (0:Int),vi (0:Int),O.v O.nil,O.v O.nil,O.v O.nil],vb false]) (ah M nb 0 l):=by
 subst d;exact⟨_,.nil,.nil,.nil,rfl,pE.nil ((c.trans a).ah b _ _)⟩
variable(c:fC m d p h)(f:gH m aT j i s)(b:zC s)(g:s.aT.length<=10000000)
include c f b g
omit c f in
def TX:Sm 10000000 s:=b.sm b.lh g
omit c f in
def Qb(c:Int):zI (uO h s c).s:=by
 unfold uO;split
 .rename_i a;exact(wP _ a.1).ju (wQ _ a.1 (b.sm b.lh g) V) V
 .exact⟨by simp[tZ],by simp[tZ],by simp[tZ],by simp[tZ],by simp[tZ]⟩
def Gv:aN cp 14 [.agg #[O.v d,O.v p],Nm s aT j i] m (Xb m (uO h s 1)):=by
 apply AA;simp -zeta only[aC,aB];rw[NX];intro u m2 r;have s1:u.size=m.size+1:=by simp[u]
 have s2:m2.size=m.size+2:=by simp[m2,s1]
 have s3:r.size=m.size+3:=by simp[r,s2]
 have w:J m r:=(((J.az m).aK _).aK _).aK _;clear_value r;have o:∀e∈[m2.size,u.size,m.size],e<r.size:=bF;refine(Fi (c.ext w) (f.ext w) b).aI (J.az _) o λb4 W I k _=>⟨b4,rfl,λA=>Sj w k V (by rw[ae (nb I A)]) _,λA=>?_⟩;have q:=yb I A;rw[ao q];have t:=w.trans k;have z5:=t.size;have ac:=k.size;have n:=TX b g;refine(p7 (Bs.yO W) (λ_=>dP _) (f.ext t) (q.ju n V)).mono ?_;rintro _ D ⟨aa,o6,H,G,rfl,Q,M⟩;have x:=M.va;have z6:=x.size;refine⟨x.dy λe l=>k.lt (o e l),_,_,_,_,o6,H,G,rfl,aH (x.same _ V) 0,aH (x.same _ V) 1,?_⟩;intro v;have kb:cJ v D.size bK (SB d p s o6 H G):=cJ.push D _ _;have y:=Q.cV (m2:=v) (J.push D _) (ad _) kb;have L:zA _ v [m2.size,u.size,m.size]:=λe l=>⟨y.cz.lt (k.lt (o e l)),y.jZ e (k.lt (o e l))⟩;clear_value v;refine(Hg y (c.ext t) q n.uG (oh n.heap) (oh n.aT)).mono ?_;rintro _ X ⟨ab,Y,U,T,a,t8⟩;have K:=wP 1 q;have C:=K.ju (wQ 1 q n V) V;rw[<-Vp]at K C;generalize kC h s=S at*;refine⟨t8.dK L,_,a.box.cg 2,_,a.box.cg 3,_,a.box.cg 4,_,a.box.cg 5,Y,a.box.cg 6,U,a.box.cg 7,T,a.box.cg 8,(p7 (Bs.yO X) (λ_=>dP _) (a.Eo C) C).mono ?_⟩;rintro _ m9 ⟨Z,E,B,z,rfl,R,N⟩;have F:=a.cz;have z8:=F.size;refine⟨N.va.dy λe l=>F.lt (k.lt (o e l)),_,_,_,_,E,B,z,rfl,?_⟩;have P:=R.box (t.trans F) (nb:=m2.size) V V 0 [.i S.cx,.i S.value,.i S.bz,.i S.dX,.s E,.s B,.s z];exact⟨Z,E,B,z,rfl,P⟩
end
end
section
section
variable{m:E}{s t:O}
def Gi{x y:bN}{q r:O}(h:ap m q x.aF)(k:ap m r y.aF):dw cp 73 [.agg #[vi x.aQ,vi x.kD,O.v q],.agg #[vi y.aQ,vi y.kD,O.v r]] m (x=y):=by
 apply Ah;simp -zeta only[aC,aB];intro i d;let⟨a,g⟩:=dF (a:=i) (c:=d) rfl rfl;clear_value d;refine⟨λb=>⟨λc=>?_,λc=>bW (λh=>by simp[h]at c) a⟩,λb=>bW (λh=>by simp[h]at b) a⟩;refine(jQ (h.ext a) (k.ext a)).aI (J.az _) g λe l f j _=>⟨e,rfl,eV ?_ (a.trans j)⟩;rw[f];cases x;cases y;simp at b c;simp[b,c]
def Gj{l r:List bN}(f:cR m s l)(j:cR m t r):dw cp 37 [O.v s,O.v t] m (l=r):=by
 apply Ai;have y:=f.len;have D:=j.len;refine⟨λh=>bW (λe=>?_) (J.az _),λh=>?_⟩
 .subst e;simp at h;omega
 have C:l.length=r.length:=by simp at h;omega
 refine dW (n:=l.length) (y▸f.gY) (λk a=>J m a/\l.take k=r.take k) ⟨J.az _,aL⟩ ?_;rintro k E I μ B ⟨b,d⟩ A
 refine dit (λx=>?_) λx=>?_
 .let⟨K,g⟩:=cK l k;let⟨L,c⟩:=cK r k;let⟨G,a,w,g1,g2⟩:=(cR.ext b f).aE g;let⟨H,z,q,u,v⟩:=(cR.ext b j).aE c;refine⟨V,V,_,w,_,g1,_,g2,V,V,_,q,_,u,_,v,(Gi a z).mono ?_⟩;rintro _ F ⟨p,rfl,i,o⟩;refine⟨p,rfl,λa=>bW (λe=>nb i a ?_) (b.trans o),λa=>A V _ ⟨b.trans o,?_⟩⟩
  .subst e;rw[g]at c;simpa using c
  .rw[aU g,aU c,d,yb i a]
 .rw[bY V,bY V]at d;exact iV d b
def Ek{x y:aX}{r s t u v w:O}(C:ap m r (x.ak))(D:ap m s (x.aR))(E:ap m t (x.aZ))(F:ap m u (y.ak))(G:ap m v (y.aR))(H:ap m w (y.aZ)):
 dw cp 17 [.agg #[vi x.fw,vi x.pc,vi x.dst,O.v r,O.v s,O.v t],.agg #[vi y.fw,vi y.pc,vi y.dst,O.v u,O.v v,O.v w]] m (x=y):=by
 apply yM
 simp -zeta only[aC,aB]
 intro I q
 let⟨a,i⟩:=dF (a:=I) (c:=q) rfl rfl
 clear_value q
 refine⟨λc=>⟨λd=>⟨λe=>?_,λe=>bW (λh=>by simp[h]at e) a⟩,λd=>bW (λh=>by simp[h]at d) a⟩,λc=>bW (λh=>by simp[h]at c) a⟩
 refine(jQ (C.ext a) (F.ext a)).aI (J.az _) i λz N o f L=>⟨z,rfl,λk=>?_,λk=>bW (λh=>fb o k (by rw[h])) (a.trans f)⟩
 have b:=a.trans f
 refine(jQ (D.ext b) (G.ext b)).aI f i λA P p j M=>⟨A,rfl,λl=>?_,λl=>bW (λh=>fb p l (by rw[h])) (b.trans j)⟩
 have g:=b.trans j
 refine(jQ (E.ext g) (H.ext g)).aI (f.trans j) i λB Q hd K _=>⟨B,rfl,eV ?_ (g.trans K)⟩
 rw[hd];have h:=o.1 k;have n:=p.1 l;cases x;cases y;simp at c d e h n;simp[c,d,e,h,n]
def Cx{l r:List aX}(f:iI m s l)(j:iI m t r):dw cp 38 [O.v s,O.v t] m (l=r):=by
 apply xl;have H:=f.len;have R:=j.len;refine⟨λh=>bW (λe=>?_) (J.az _),λh=>?_⟩
 .subst e;simp at h;omega
 have Q:l.length=r.length:=by simp at h;omega
 refine dW (n:=l.length) (H▸f.gY) (λk a=>J m a/\l.take k=r.take k) ⟨J.az _,aL⟩ ?_;rintro k S N μ P ⟨a,d⟩ M
 refine dit (λD=>?_) λD=>?_
 .let⟨aa,g⟩:=cK l k;let⟨ab,b⟩:=cK r k;let⟨U,W,X,E,F,G,z,g1,g2,A,B,C⟩:=(iI.ext a f).aE g;let⟨Y,Z,r5,I,K,L,q,u,v,w,x,y⟩:=(iI.ext a j).aE b;refine⟨V,V,_,z,_,g1,_,g2,_,A,_,B,_,C,V,V,_,q,_,u,_,v,_,w,_,x,_,y,(Ek E F G I K L).mono ?_⟩;rintro _ T ⟨p,rfl,i,o⟩;refine⟨p,rfl,λc=>bW (λe=>nb i c ?_) (a.trans o),λc=>M V _ ⟨a.trans o,?_⟩⟩
  .subst e;rw[g]at b;simpa using b
  .rw[aU g,aU b,d,yb i c]
 .rw[bY V,bY V]at d;exact iV d a
def tz{x y:St}{A h s B u t:O}(k:gH m A h s x)(l:gH m B u t y):dw cp 15 [Nm x A h s,Nm y B u t] m (x=y):=by
 apply yN;simp -zeta only[aC,aB];intro F z;let⟨a,j⟩:=dF (a:=F) (c:=z) rfl rfl;clear_value z;refine⟨λc=>⟨λd=>⟨λe=>⟨λf=>?_,λf=>bW (λh=>by simp[h]at f) a⟩,λe=>bW (λh=>by simp[h]at e) a⟩,λd=>bW (λh=>by simp[h]at d) a⟩,λc=>bW (λh=>by simp[h]at c) a⟩;refine(jQ (k.aT.ext a) (l.aT.ext a)).aI (J.az _) j λC K v g H=>⟨C,rfl,λo=>?_,λo=>bW (λh=>fb v o (by rw[h])) (a.trans g)⟩;have b:=a.trans g;refine(Gj (cR.ext b k.heap) (cR.ext b l.heap)).aI g j λD L w n I=>⟨D,rfl,λp=>?_,λp=>bW (λh=>fb w p (by rw[h])) (b.trans n)⟩;have i:=b.trans n;refine(Cx (iI.ext i k.an) (iI.ext i l.an)).aI (g.trans n) j λE M hd G _=>⟨E,rfl,eV ?_ (i.trans G)⟩;rw[hd];have q:=v.1 o;have r:=w.1 p;cases x;cases y;simp at c d e f q r;simp[c,d,e,f,q,r]
end
end
end Go.Proofs.YtkoifinbblcbiaaGreat
