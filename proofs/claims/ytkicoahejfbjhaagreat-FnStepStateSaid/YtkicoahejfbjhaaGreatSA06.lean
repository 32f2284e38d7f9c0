/- Part of a proof. -/
import Derived.Test.YtkicoahejfbjhaaGreatSA01
import Derived.Test.YtkicoahejfbjhaaGreatSA02
import Derived.Test.YtkicoahejfbjhaaGreatSA03
import Derived.Test.YtkicoahejfbjhaaGreatSA04
import Derived.Test.YtkicoahejfbjhaaGreatSA05
set_option linter.all false
set_option maxHeartbeats 8000000
set_option maxRecDepth 100000
namespace Go.Proofs.YtkicoahejfbjhaaGreat
open Go.Vc
section
open Tryz
variable{m:E}{R:Value->E->Prop}
variable{a b c d e f g h p q r u v w x y:O}{i j k l n o s t z A B C D F G H:Int}
def GW(a:O):=cY m R A0 [.agg [a,i],j] func257
def yJ(a:O):=cY m R ⟨[(5,[(11,.S),(12,.S),(13,.S),(14,.I)]),(17,[(13,.S),(20,.I)])],[],[(5,[159,156,154]),(17,[164,159,156,154])]⟩ [.agg [a,b],c,.agg [d,i],e,f] func258
def AB(i:Int):=cY m R ⟨[(3,[(5,.S),(6,.I)])],[],[]⟩ [i,a] func259
def Db(a:O):=cY m R ⟨[],[(3,[]),(30,[(151,.T)])],[(3,[188,186]),(30,[188,186])]⟩ [.agg [a,b],c,.agg [i,j,k,d,e]] func260
def tZ(a:O):=cY m R ⟨[(3,[(7,.S),(8,.I)])],[],[(3,[36,34])]⟩ [.agg [a,b],c,.agg [i,j,k,d,e]] func261
def CL(a:O):=cY m R ⟨[(4,[(7,.S),(9,.I)])],[(9,[(10,.S)])],[(4,[78,77,75]),(9,[78,77,75])]⟩ [.agg [a,b],c,.agg [i,j,k,d,e]] func262
def tG(a:O):=cY m R ⟨[(4,[(3,.I)])],[],[(4,[36])]⟩ [.agg [a,b]] func263
def EN(a:O):=cY m R A0 [.agg [a,i]] func264
def Aq(a:O):=cY m R ⟨[(3,[(7,.S),(8,.I)])],[],[(3,[57,55])]⟩ [.agg [a,b],c,.agg [d,i]] func265
def xl(p:Nat×Nat):=cY m R A0 [p,i,j,k] func266
def xt(p:Nat×Nat):=cY m R A0 [p,i] func267
def xp(p:Nat×Nat):=cY m R ⟨[(6,[(9,.I)])],[(4,[])],[(4,[110,109]),(6,[110,109])]⟩ [p,.agg [a,b],.agg [i,j,k,c,d]] func268
def vd(p:Nat×Nat):=cY m R ⟨[(7,[(9,.I)])],[(3,[])],[(3,[93,92]),(7,[93,92])]⟩ [p,.agg [a,b],.agg [i,j,k,c,d]] func269
def tB(p:Nat×Nat):=cY m R ⟨[(2,[(7,.I)]),(7,[(8,.I)])],[],[(2,[84,83]),(7,[84,83])]⟩ [p,.agg [a,b],.agg [i,j,k,c,d]] func270
def Ha(a:O):=cY m R ⟨[(3,[(3,.S),(4,.I)])],[],[]⟩ [a] func271
def Iw(a:O):=cY m R ⟨[(3,[(5,.I),(6,.I)])],[],[]⟩ [a,i] func272
def Bf(a:O):=cY m R ⟨[(2,[(3,.I)])],[],[(2,[21])]⟩ [.agg [a,i]] func273
def Cp(a:O):=cY m R ⟨[(3,[(7,.S),(8,.I)])],[],[(3,[38])]⟩ [.agg [a,i],j,k] func274
end
section
open Tryz
variable{m:E}{R:Value->E->Prop}
variable{a b c d e f g h p q r u v w x y:O}{i j k l n o s t z A B C D F G H:Int}
def wB(a:O):=cY m R ⟨[(4,[(5,.S),(6,.T),(7,.I)])],[],[]⟩ [a,i] func275
def CV(a:O):=cY m R A0 [.agg [a,i],j,k] func276
def yN(a:O):=cY m R ⟨[(2,[(3,.I)])],[],[(2,[22])]⟩ [.agg [a,i]] func277
def GQ(a:O):=cY m R ⟨[(2,[(9,.I)])],[],[(2,[40])]⟩ [.agg [a,i],j,k,l] func278
def Gu(a:O):=cY m R ⟨[(4,[(5,.S),(6,.T),(7,.I)])],[],[]⟩ [a,i] func279
def ub(p:Nat×Nat):=cY m R ⟨[(13,[(11,.S),(13,.I)]),(22,[(15,.S),(16,.I)])],[(18,[(14,.I)])],[(13,[154,153]),(18,[154,153]),(22,[154,153])]⟩ [p,.agg [a,b],.agg [i,j,c],d] func280
def EH(a:O):=cY m R ⟨[(2,[(5,.I)])],[],[]⟩ [a,i] func281
def Ey(i:Int):=cY m R A0 [i] func282
def CO(p:Nat×Nat):=cY m R ⟨[],[(5,[])],[(5,[31,30])]⟩ [p,.agg [a,b]] func283
def CQ(p:Nat×Nat):=cY m R ⟨[(6,[(12,.S),(13,.I)])],[(19,[]),(22,[])],[(6,[144,141]),(19,[151,150,144,141]),(22,[150,144,141])]⟩ [p,.agg [a,b],i,j] func284
def CR(p:Nat×Nat):=aah m R ⟨[(6,[(9,.S),(10,.S),(11,.I)])],[(13,[(14,.P)]),(15,[])],[(6,[102,100]),(13,[109,108,102,100]),(15,[109,108,102,100])]⟩ [p,.agg [a,b],i] func285
def CA(p:Nat×Nat):=cY m R ⟨[(4,[(8,.S),(9,.I)])],[(10,[])],[(4,[81,79]),(10,[81,79])]⟩ [p,.agg [a,b],i] func286
def Es(p:Nat×Nat):=cY m R ⟨[(2,[(4,.I)])],[],[(2,[44,40])]⟩ [p,.agg [a,b],c,i,j] func287
def EE(i:Int):=cY m R A0 [.agg [i,j,a]] func288
def ru(a:O):=cY m R ⟨[(3,[(4,.I)])],[],[(3,[30,29])]⟩ [.agg [a,i]] func289
def CI(a:O):=cY m R ⟨[(2,[(5,.I)])],[],[(2,[23])]⟩ [.agg [a,b],i] func290
def uZ(a:O):=cY m R ⟨[(4,[(7,.I)]),(8,[(9,.I)]),(13,[(10,.I)])],[],[(4,[72,71]),(8,[76,72,71]),(13,[76,72,71])]⟩ [.agg [a,b],.agg [c,i],j] func291
def Ef(a:O):=cY m R ⟨[(2,[(3,.S),(9,.I)])],[],[(2,[44])]⟩ [.agg [a,i],j,k,b] func292
end
section
open Tryz
variable{m:E}{R:Value->E->Prop}
variable{a b c d e f g h p q r u v w x y:O}{i j k l n o s t z A B C D F G H:Int}
def IN(a:O):=cY m R ⟨[(3,[(5,.S),(6,.I)])],[],[]⟩ [a,b] func293
def yK(a:O):=cY m R ⟨[(3,[(11,.S),(12,.I)])],[],[(3,[50,48])]⟩ [.agg [a,b],c,.agg [i,j,k,d,e],f,g] func294
def AA(a:O):=cY m R ⟨[(4,[(11,.S),(13,.I)])],[],[(4,[72,69,67])]⟩ [.agg [a,b],c,.agg [i,j,k,d,e],f,g] func295
def AQ(a:O):=cY m R ⟨[(5,[(11,.S),(12,.I)])],[],[(5,[62,60])]⟩ [.agg [a,b],c,.agg [i,j,k,d,e],f,g] func296
def AT(a:O):=cY m R ⟨[(3,[(9,.S),(10,.I)])],[],[(3,[55,54])]⟩ [.agg [a,b],.agg [i,j,k,c,d],e,f] func297
def EX(a:O):=cY m R ⟨[(3,[(5,.S),(6,.I)])],[],[]⟩ [a,i] func298
def Gt(i:Int):=cY m R A0 [i] func299
def Bp(a:O):=cY m R A0 [a,.agg [i,j,k,b,c]] func300
def IM(a:O):=cY m R ⟨[(4,[(7,.I)])],[],[]⟩ [a,b,c] func301
def CK(a:O):=cY m R ⟨[(9,[(9,.I),(10,.I)])],[(5,[(8,.I)])],[(5,[76,74]),(9,[76,74])]⟩ [.agg [a,b],c,.agg [i,j,k,d,e]] func302
def xz(a:O):=cY m R A0 [.agg [a,b],c,.agg [i,j,k,d,e]] func303
def Ez(a:O):=cY m R A0 [a,i] func304
def wg(a:O):=cY m R A0 [.agg [a,b],c,.agg [i,j,k,d,e]] func305
def yL(a:O):=cY m R A0 [.agg [a,b],c,.agg [i,j,k,d,e],l] func306
def GM(a:O):=cY m R ⟨[(3,[(4,.I)])],[],[(3,[37,36])]⟩ [.agg [a,b]] func307
def Bi(a:O):=cY m R ⟨[(2,[(1,.I),(5,.I)]),(8,[(1,.I),(6,.I)])],[],[(2,[45]),(8,[45])]⟩ [.agg [a,i],j] func308
def yP(p:Nat×Nat):=cY m R ⟨[(9,[(14,.I)])],[],[(9,[89,88])]⟩ [p,.agg [a,b],.agg [i,j,k,c,d],l] func309
def GD(a:O):=cY m R A0 [.agg [a,b],.agg [i,j,k,c,d],l] func310
end
section
open Tryz
variable{m:E}{R:Value->E->Prop}
variable{a b c d e f g h p q r u v w x y:O}{i j k l n o s t z A B C D F G H:Int}
def Ig(a:O):=cY m R ⟨[(2,[(7,.I)])],[],[(2,[47])]⟩ [.agg [a,i],j,k] func311
def yM(i:Int):=cY m R A0 [i] func312
def wo(p:Nat×Nat):=cY m R A0 [p,.agg [i,j,k,a,b]] func313
def LI(p:Nat×Nat):=cY m R A0 [p,.agg [a,b],c,i,j] func314
def JY(i:Int):=cY m R A0 [i,j,a] func315
def ED(p:Nat×Nat):=cY m R ⟨[(8,[(9,.I)])],[(5,[(7,.P)])],[(5,[51,50,49]),(8,[50,49])]⟩ [p,i] func316
def Dd(i:Int):=cY m R A0 [i] func317
def JU(p:Nat×Nat):=cY m R A0 [p,.agg [a,b],c,i] func318
def AX(i:Int):=cY m R ⟨[(5,[(1,.I),(5,.I)])],[],[(5,[29])]⟩ [.agg [i,j,a],k] func319
def Cw(i:Int):=cY m R ⟨[(3,[(3,.S),(4,.I)])],[],[(3,[35,34])]⟩ [.agg [i,j,k,a,b]] func320
def Ct(a:O):=cY m R ⟨[(2,[(5,.I)]),(7,[(6,.I)])],[],[(2,[55]),(7,[55])]⟩ [.agg [a,i],j] func321
def wY(i:Int):=cY m R ⟨[(4,[(2,.S),(7,.I)]),(9,[(2,.S),(8,.I)])],[],[(4,[61]),(9,[61])]⟩ [.agg [i,j,k,a,b],l,c] func322
def EA(a:O):=cY m R A0 [.agg [a,b],.agg [i,j,k,c,d],l,e,f] func323
def Cx(a:O):=cY m R ⟨[(7,[(16,.S),(17,.S),(18,.I)]),(14,[(19,.S),(20,.I)])],[],[(7,[127,124,121]),(14,[127,124,121])]⟩ [.agg [a,b],c,d,.agg [e,i],f,g] func324
def Gk(a:O):=cY m R ⟨[(3,[(5,.S),(6,.I)])],[],[]⟩ [a,b] func325
def Ek(a:O):=cY m R ⟨[(2,[(7,.I)])],[],[]⟩ [a,i,j] func326
def ve(p:Nat×Nat):=cY m R A0 [p] func327
def wj(p:Nat×Nat):=cY m R ⟨[(2,[(9,.I)])],[],[(2,[51,50])]⟩ [p,.agg [a,b],.agg [c,i],j] func328
end
section
open Tryz
variable{m:E}{R:Value->E->Prop}
variable{a b c d e f g h p q r u v w x y:O}{i j k l n o s t z A B C D F G H:Int}
def Ej(p:Nat×Nat):=cY m R A0 [p,.agg [a,b],c] func329
def Gs(p:Nat×Nat):=cY m R ⟨[(3,[(11,.S),(12,.I)])],[],[(3,[42])]⟩ [p,.agg [a,b],c,d,i] func330
def CE(p:Nat×Nat):=cY m R ⟨[(7,[(13,.S),(14,.I)])],[(4,[(11,.I)])],[(4,[79,75]),(7,[79,75])]⟩ [p,.agg [a,b],c,i,j] func331
def Cr(a:O):=cY m R ⟨[(3,[(5,.S),(6,.I)]),(7,[(7,.T),(8,.I)])],[],[(3,[59]),(7,[59])]⟩ [.agg [a,b],i] func332
def CF(p:Nat×Nat):=cY m R ⟨[(3,[(11,.I)])],[(7,[])],[(3,[130,126]),(7,[130,126])]⟩ [p,.agg [a,b],c,i,j] func333
def EK(p:Nat×Nat):=cY m R A0 [p] func334
def ze(a:O):=cY m R ⟨[(3,[(5,.S),(6,.I)])],[],[]⟩ [a,i] func335
def El(a:O):=cY m R A0 [.agg [a,b],c,i] func336
def C0(p:Nat×Nat):=cY m R ⟨[(11,[(9,.S),(11,.I)]),(21,[(15,.S),(16,.I)])],[(6,[(8,.I)]),(8,[(8,.I)]),(17,[(80,.T)])],[(6,[124,122]),(8,[124,122]),(11,[124,122]),(17,[124,122]),(21,[124,122])]⟩ [p,.agg [a,b],i] func337
def wt(a:O):=cY m R ⟨[(2,[(7,.I)])],[],[(2,[46,45])]⟩ [.agg [a,b],.agg [i,j,k,c,d],l] func338
def Ia(a:O):=cY m R ⟨[(3,[(5,.S),(6,.I)])],[],[]⟩ [a,i] func339
def yO(p:Nat×Nat):=cY m R ⟨[(2,[(5,.I)])],[],[]⟩ [p,i] func340
def Cs(a:O):=cY m R ⟨[(3,[(5,.S),(6,.I)])],[],[(3,[55])]⟩ [.agg [a,b],i] func341
end
end Go.Proofs.YtkicoahejfbjhaaGreat
namespace Go.Proofs.YtkicoahejfbjhaaGreat
open Go.Vc
section
variable{m:E}{a:O}{l:List Int}
def aY(n b a:Int)(m:E):dt cg 45 [vi n,vi b,vi a] m (b<=n/\n<=a):=by
 apply Ew;refine⟨λh=>eT ?_ (J.az _),λh=>bV ?_ (J.az _)⟩<;>simp at h
 .simp[h]
 .omega
def jN(a:Int)(m:E):dt cg 181 [vi a] m (0<=a/\a<=11):=by
 apply Er;exact(aY _ _ _ _).then λd e c b=>⟨_,rfl,eT c b⟩
def lO(a:Int):Prop:=0<=a/\a<=11/\a≠7/\a≠8\/a=18\/a=19
def xC(e:Int)(m:E):dt cg 126 [vi e] m (lO e):=by
 apply J5;refine(jN _ _).then λg i d a=>⟨_,rfl,λh=>?_,λh=>?_⟩
 .have h:=d.1 h;refine⟨λb=>⟨λc=>iN ?_ a,λc=>⟨λf=>iN ?_ a,λf=>eT ?_ a⟩⟩,λb=>⟨λc=>iN ?_ a,λc=>eT ?_ a⟩⟩<;>simp[lO]at* <;>omega
 .have h:=fb d h;refine⟨λb=>iN ?_ a,λb=>eT ?_ a⟩<;>simp[lO]at* <;>omega
def dw(e:ap m a l)(d:Int):dt cg 135 [O.v a,vi d] m (d∈l):=by
 apply JP;have i:=e.len;refine dU (n:=l.length) (i▸e.gS) (λk b=>J m b/\∀y∈l.take k,y≠d) ⟨J.az _,aL⟩ ?_;rintro k p I μ o ⟨c,g⟩ j
 refine dit (λh=>?_) λh=>?_
 .let⟨x,f⟩:=cG l k;refine⟨V,V,x,by simpa using c.af (e.aF f),λb=>?_,λb=>?_⟩
  .simp only[aG]at b;exact iN (b▸aq f) c
  .simp only[aj]at b;exact j V _ ⟨c,bB f g b⟩
 .exact bV (λb=>db V g d b rfl) c
def zm(n:Nat)(t:Int):Prop:=0<=t/\t<=n
def Fe(n:Nat)(l:List Int):Prop:=∀t∈l,zm n t
def vX(c:ap m a l)(bo:O):dt cg 158 [O.v bo,O.v a] m (Fe bo.len l):=by
 apply Cm;have i:=c.len;refine dU (n:=l.length) (i▸c.gS) (λk b=>J m b/\∀t∈l.take k,zm bo.len t) ⟨J.az _,aL⟩ ?_;rintro k r I μ q ⟨b,g⟩ o
 refine dit (λh=>?_) λh=>?_
 .let⟨x,d⟩:=cG l k;refine⟨V,V,x,by simpa using b.af (c.aF d),?_⟩;exact(aY _ _ _ _).then λp s f e=>⟨_,rfl,λh=>bV (λj=>nb f h (j x (aq d))) (b.trans e),λh=>o V _ ⟨b.trans e,bB d g (yb f h)⟩⟩
 .exact iN (db V g) b
def N4(l:List Int)(c a b:Int):Prop:=(l.length:Int)=c/\∀t∈l,a+1<=t/\t<=b -1
def ER(f:ap m a l)(o b c:Int)(w: -1<=b/\b<9223372036854775807)(e:0<=c/\c<=9223372036854775807):
 dt cg 203 [O.v a,vi o,vi b,vi c] m (N4 l o b c):=by
 apply y9
 have g:=f.len
 refine⟨λh=>?_,λh=>?_⟩
 .simp only[vr]at h
  exact bV (λi=>h (by rw[g];exact i.1)) (J.az _)
 .simp only[iJ]at h
  have u:o=(l.length:Int):=by rw[<-h,g]
  subst u
  have r:cT (b+1)=b+1:=aQ V V
  have s:cT (c -1)=c -1:=aQ V V
  rw[r,s]
  refine dU (n:=l.length) (g▸f.gS) (λk d=>J m d/\∀t∈l.take k,b+1<=t/\t<=c -1) ⟨J.az _,aL⟩ ?_
  rintro k z I μ y ⟨d,q⟩ t
  refine dit (λh=>?_) λh=>?_
  .let⟨x,j⟩:=cG l k
   refine⟨V,V,x,by simpa using d.af (f.aF j),?_⟩
   exact(aY _ _ _ _).then λv A p e=>⟨_,rfl,λh=>bV (λi=>nb p h (i.2 x (aq j))) (d.trans e),λh=>t V _ ⟨d.trans e,bB j q (yb p h)⟩⟩
  .exact iN ⟨rfl,db V q⟩ d
def DI(a cR:List Int):Prop:=∀(k:Nat)(v:Int),cR[k]? =some v->(∃t,0<=v/\a[v.toNat]? =some t/\t≠0)/\(∀u:Int,0<k->cR[k -1]? =some u->u<v)
def uH{A cR:O}{p:List Int}(g:ap m A p)(f:ap m cR l):dt cg 159 [O.v A,O.v cR] m (DI p l):=by
 apply Bq;have K:=f.len;have L:=g.len;have T:=g.gS;have F:cT ((A.len:Int) -1)=(p.length:Int) -1:=by rw[aQ V V,L]
 rw[F];have S:=f.gS;refine dU (n:=l.length) (K▸f.gS) (λk M=>J m M/\∀(j:Nat)(v:Int),j<k->l[j]? =some v->(∃t,0<=v/\p[v.toNat]? =some t/\t≠0)/\(∀u:Int,0<j->l[j -1]? =some u->u<v)) ⟨J.az _,aL⟩ ?_;rintro k N P μ R ⟨i,w⟩ D
 refine dit (λh=>?_) λh=>?_
 .let⟨x,c⟩:=cG l k;have g1:af N cR.D (cR.off+Int.toNat k*1)=some (vi x):=by simpa using i.af (f.aF c)
  refine⟨V,V,x,g1,?_⟩;refine(aY _ _ _ _).then λQ U B d=>⟨_,rfl,λh=>?_,λh=>?_⟩
  .refine bV (λg=>nb B h ?_) (i.trans d);obtain⟨⟨t,b,s,_⟩,_⟩:=g k x c;have:=av s;omega
  .have C:=yb B h;let⟨t,q⟩:=cG p x.toNat;have H:=(i.trans d).af (g.aF q);have o:=i.trans d;refine⟨V,V,x,d.af g1,V,V,t,by simpa using H,λb=>?_,λb=>?_⟩
   .simp only[aG]at b;refine bV (λa=>?_) o;obtain⟨⟨y,_,e,r⟩,_⟩:=a k x c;rw[q]at e;simp at e;exact r (e▸b)
   .simp only[aj]at b;refine dit (λs=>?_) λs=>?_
    .have G:cT ((k:Int) -1)=((k -1:Nat):Int):=by rw[aQ V V];omega
     let⟨E,z⟩:=cG l (k -1);rw[G];refine⟨V,V,x,d.af g1,V,V,E,by simpa using o.af (f.aF z),dit (λe=>?_) λe=>?_⟩
     .refine bV (λa=>?_) o;have:=(a k x c).2 E V z;omega
     .refine D V _ ⟨o,λj v I a=>?_⟩
      by_cases r:j=k
      .subst r;rw[c]at a;simp at a;subst a;refine⟨⟨t,C.1,q,b⟩,λu _ y=>?_⟩;rw[z]at y;simp at y;subst y;omega
      .exact w j v V a
    .refine D V _ ⟨o,λj v I a=>?_⟩
     by_cases r:j=k
     .subst r;rw[c]at a;simp at a;subst a;exact⟨⟨t,C.1,q,b⟩,λu e _=>V⟩
     .exact w j v V a
 .exact iN (λj v a=>w j v (oh (av a)) a) i
end
section
variable{m:E}
structure Hk(ds:List bz)(k:Nat)(d:bz):Prop where
 iV:0<d.cons.length->d.cons.length<=3/\d.sS=0/\d.to=0/\∀f∈d.cons,f.length<=3/\Fe ds.length f
 RH:d.cons.length=0->(∀e∈ds.take k,¬(e.cons.length=0/\e.sS=d.sS/\e.to=d.to))/\zm ds.length d.sS/\zm ds.length d.to
structure dT(ds:List bz):Prop where
 len:ds.length<=4
 dz:∀(k:Nat)(d:bz),ds[k]? =some d->Hk ds k d
def GY{bo:O}{h:List bz}(hd:cw m bo h){k:Nat}{d:bz}(H:h[k]? =some d):dt cg 199 [O.v bo,vi k] m (Hk h k d):=by
 apply Bn;simp -zeta only[aC,aB];have X:=av H;have v:=hd.len;let⟨x,z,K,g1,g2⟩:=hd.aF H;refine⟨V,V,_,by simpa using K,_,by simpa using g1,_,by simpa using g2,?_⟩;intro P s;have c:J m s:=((J.az m).aK _).ah (ad _) _ _;have A:∀t∈[m.size],t<s.size:=by simp[s,P,aw]
 have M:=z.len;refine dit (λq=>?_) λq=>?_
 .refine dit (λL=>?_) λL=>?_
  .exact bV (λa=>oh ((a.iV V).1)) c
  refine⟨λf=>?_,λf=>?_⟩
  .simp only[vr]at f;exact bV (λa=>f (a.iV V).2.1) c
  simp only[iJ]at f;refine⟨λp=>?_,λp=>?_⟩
  .simp only[vr]at p;exact bV (λa=>p (a.iV V).2.2.1) c
  simp only[iJ]at p;refine dU (n:=d.cons.length) (M▸z.gS) (λk B=>J s B/\∀x∈d.cons.take k,x.length<=3/\Fe h.length x) ⟨J.az _,aL⟩ ?_;rintro j w I μ N ⟨g,r⟩ D
  refine dit (λy=>?_) λy=>?_
  .let⟨C,u⟩:=cG d.cons j;let⟨E,G,F⟩:=(oX.ext (c.trans g) z).aF u;have R:=G.len;refine⟨V,V,E,by simpa using F,dit (λo=>?_) λo=>?_⟩
   .exact bV (λa=>oh (((a.iV V).2.2.2 C (aq u)).1)) (c.trans g)
   .refine⟨V,V,E,by simpa using F,?_⟩;exact(vX G _).aH g A λt Q l i b=>⟨_,rfl,λe=>bV (λa=>nb l e (v▸((a.iV V).2.2.2 C (aq u)).2)) (c.trans b),λe=>D V _ ⟨b,bB u r ⟨V,v▸yb l e⟩⟩⟩
  .exact iN ⟨λ_=>⟨V,f,p,db V r⟩,λF=>V⟩ (c.trans g)
 .have C:d.cons.length=0:=V;have U:=hd.gS;refine dU (n:=k) V (λk B=>J s B/\∀f∈h.take k,¬(f.cons.length=0/\f.sS=d.sS/\f.to=d.to)) ⟨J.az _,aL⟩ ?_;rintro j w I μ N ⟨g,r⟩ D
  refine dit (λy=>?_) λy=>?_
  .let⟨f,u⟩:=cG h j;let⟨E,G,R,S,T⟩:=(cw.ext (c.trans g) hd).aF u;have W:=G.len;have B:¬(f.cons.length=0/\f.sS=d.sS/\f.to=d.to)->I (cT ((j:Int)+1)) w/\μ (cT ((j:Int)+1)) w<μ j w:=λp=>D V _ ⟨g,bB u r p⟩
   refine⟨V,V,E,by simpa using T,λo=>?_,λo=>?_⟩
   .simp only[aG]at o;refine⟨V,V,_,by simpa using R,λi=>?_,λi=>?_⟩
    .simp only[aG]at i;refine⟨V,V,_,by simpa using S,λb=>?_,λb=>?_⟩
     .simp only[aG]at b;have L:f∈h.take k:=by
       rw[List.mem_iff_getElem?];exact⟨j,by rw[lE,an V];exact u⟩
      exact bV (λa=>(a.RH C).1 f L ⟨V,i,b⟩) (c.trans g)
     .simp only[aj]at b;exact B (λp=>b p.2.2)
    .simp only[aj]at i;exact B (λp=>i p.2.1)
   .simp only[aj]at o;exact B (λp=>o V)
  .have f:j=k:=V;subst f;refine(aY _ _ _ _).aH g A λt Q l i b=>⟨_,rfl,λe=>?_,λe=>bV (λa=>fb l e (v▸(a.RH C).2.1)) (c.trans b)⟩;have e:=l.1 e;refine(aY _ _ _ _).aH b A λt p l o a=>⟨_,rfl,eT ?_ (c.trans a)⟩;rw[l];rw[v]at e⊢;exact⟨λq=>⟨λF=>V,λ_=>⟨r,e,q⟩⟩,λq=>(q.RH C).2.2⟩
def EV{bo:O}{a:List bz}(hd:cw m bo a):dt cg 157 [O.v bo] m (dT a):=by
 apply zd;have u:=hd.len;refine dit (λo=>?_) λo=>?_
 .exact bV (λf=>oh f.len) (J.az _)
 .refine dU (n:=a.length) V (λq r=>J m r/\∀(j:Nat)(d:bz),j<q->a[j]? =some d->Hk a j d) ⟨J.az _,aL⟩ ?_;rintro j x I μ w ⟨b,k⟩ s
  refine dit (λp=>?_) λp=>?_
  .let⟨l,e⟩:=cG a j;refine(GY (cw.ext b hd) e).then λt y h g=>⟨_,rfl,λc=>bV (λf=>nb h c (f.dz j l e)) (b.trans g),λc=>?_⟩;refine s V _ ⟨b.trans g,λi d v bG=>?_⟩
   by_cases f:i=j
   .subst f;rw[e]at bG;simp at bG;subst bG;exact yb h c
   .exact k i d V bG
  .exact iN ⟨V,λi d bG=>k i d (oh (av bG)) bG⟩ b
end
section
variable{a:Nat}{m:E}
def fc:List bz->Nat->Nat
 |_,0=>0
 |[],_=>0
 |d::b,a+1=>d.cons.length+fc b a
def eR(a:List bz):List (List Int):=a.flatMap bz.cons
def QF(a:Nat):fc [] a=0:=by cases a<;>rfl
def sB:∀{b:List bz}{a:Nat}{c:bz},b[a]? =some c->fc b (a+1)=fc b a+c.cons.length
 |[],a,c,h=>by simp at h
 |e::b,0,c,h=>by
  simp at h;subst h;simp only[fc];cases b<;>simp[fc]
 |e::b,a+1,c,h=>by
  have:=sB (b:=b) (a:=a) (c:=c) (by simpa using h);simp only[fc]at this⊢;omega
def mP:∀(b:List bz)(a:Nat),b.length<=a->fc b a=(eR b).length
 |[],a,_=>by rw[QF];rfl
 |d::b,0,h=>by simp at h
 |d::b,a+1,h=>by
  have:=mP b a (by simpa using h);simp only[fc,eR,mu,be]at this⊢;omega
def Rw:∀(a:List bz){b c:Nat},b<=c->fc a b<=fc a c
 |[],b,c,_=>by simp[QF]
 |d::a,0,c,_=>by simp[fc]
 |d::a,b+1,0,h=>V
 |d::a,b+1,c+1,h=>by
  have:=Rw a (b:=b) (c:=c) V;simp only[fc];omega
def lx{b:List bz}(h:dT b){d:bz}(e:b[a]? =some d):d.cons.length<=3:=by
 rcases jX d.cons.length with c|c
 .omega
 .exact((h.dz a d e).iV c).1
def TD{b:List bz}(h:dT b):∀a,fc b a<=3*a
 |0=>by cases b<;>simp[fc]
 |a+1=>by
  have e:=TD h a;rcases aW a b.length with c|c
  .let⟨d,hd⟩:=dB c;rw[sB hd];have:=lx h hd;omega
  .rw[mP b (a+1) V,<-mP b a c];omega
def qW{b:List bz}(h:dT b)(a:Nat):fc b a<=12:=by
 rcases aW a b.length with c|c
 .have:=TD h a;have:=h.len;omega
 .rw[mP b a c,<-mP b b.length (ad _)];have:=TD h b.length;have:=h.len;omega
def qV:∀(a:List bz)(i j:Nat)(d:bz),a[i]? =some d->j<d.cons.length->(eR a)[fc a i+j]? =d.cons[j]?
 |[],i,j,d,h,_=>by simp at h
 |e::a,0,j,d,h,b=>by
  simp at h;subst h;simp only[fc,eR,mu,bT];rw[ax b]
 |e::a,i+1,j,d,h,b=>by
  have:=qV a i j d (by simpa using h) b;simp only[fc,eR,mu]at this⊢;rw[aI V,<-this];congr 1;omega
def uQ:∀(a:List bz)(c:Nat),c<(eR a).length->∃i d,a[i]? =some d/\fc a i<=c/\c<fc a i+d.cons.length
 |[],c,h=>by simp[eR]at h
 |e::a,c,h=>by
  rcases aW c e.cons.length with b|b
  .exact⟨0,e,aL,by simp[fc],by simpa[fc]using b⟩
  .let⟨i,d,f,g,j⟩:=uQ a (c -e.cons.length) (by simp only[eR,mu,be]at h⊢;omega);exact⟨i+1,d,by simpa using f,by simp only[fc];omega,by simp only[fc];omega⟩
def j7{bo:O}{b:List bz}(hd:cw m bo b)(d:dT b)(t:a<=b.length):Hl cg 148 [O.v bo,vi a] m (vi (fc b a)):=by
 apply CD;have r:=hd.len;have:=d.len;refine ez (n:=a) V (λj g c=>J m c/\g=(fc b j:Nat)) ⟨J.az _,by cases b<;>rfl⟩ ?_;rintro j g u I μ s ⟨e,rfl⟩ k
 refine dit (λi=>?_) λi=>?_
 .let⟨l,c⟩:=cG b j;let⟨h,f,o,g1,g2⟩:=(cw.ext e hd).aF c;refine⟨V,V,h,by simpa using g2,?_⟩;refine k V _ _ ⟨e,?_⟩
  have p:=qW d j;have q:=lx d c;rw[aQ V (oh f.len),sB c,f.len];rfl
 .have:j=a:=V;subst this;exact⟨rfl,e⟩
def qC{bo:O}{a:List bz}(hd:cw m bo a)(c:dT a):Hl cg 140 [O.v bo] m (vi (eR a).length):=by
 apply Cu;have q:=hd.len;have:=c.len;refine ez (n:=a.length) V (λj f b=>J m b/\f=(fc a j:Nat)) ⟨J.az _,by cases a<;>rfl⟩ ?_;rintro j f s I μ r ⟨d,rfl⟩ i
 refine dit (λh=>?_) λh=>?_
 .let⟨k,b⟩:=cG a j;let⟨g,e,l,g1,g2⟩:=(cw.ext d hd).aF b;refine⟨V,V,g,by simpa using g2,?_⟩;refine i V _ _ ⟨d,?_⟩
  have o:=qW c j;have p:=lx c b;rw[aQ V (oh e.len),sB b,e.len];rfl
 .refine⟨?_,d⟩;rw[mP a j V]
def XJ(a:List bz)(c t:Int):Prop:=
 (∃(i:Nat)(d:bz),t=i+1/\a[i]? =some d/\(fc a i:Int)<=c/\c<fc a i+d.cons.length)\/(t= -1/\¬(0<=c/\c<(eR a).length))
def mh{bo:O}{a:List bz}(hd:cw m bo a)(k:dT a)(c:Int):aN cg 200 [O.v bo,vi c] m λE p=>∃u,E=vi u/\XJ a c u/\J m p:=by
 apply En;have H:=hd.len;have:=k.len;refine dU (n:=a.length) V (λj p=>J m p/\∀(i:Nat)(d:bz),i<j->a[i]? =some d->¬((fc a i:Int)<=c/\c<fc a i+d.cons.length)) ⟨J.az _,aL⟩ ?_;rintro j M I μ L ⟨b,s⟩ D
 refine dit (λz=>?_) λz=>?_
 .let⟨d,h⟩:=cG a j;refine(j7 (cw.ext b hd) k V).then λN e=>⟨_,rfl,?_⟩;let⟨l,B,G,g1,g2⟩:=(cw.ext (b.trans e) hd).aF h;refine⟨V,V,l,by simpa using g2,?_⟩;have o:=qW k j;have A:=lx k h;have C:=B.len;have y:cT (cT ((fc a j:Int)+(l.len:Int)) -1)=(fc a j:Int)+d.cons.length -1:=by
   rw[aQ (b:=(fc a j:Int)+(l.len:Int)) V V,aQ V V,C]
  rw[y];refine(aY _ _ _ _).then λF P r q=>⟨_,rfl,λf=>?_,λf=>?_⟩
  .have f:=r.1 f;refine⟨_,rfl,Or.inl ⟨j,d,?_,h,V,V⟩,(b.trans e).trans q⟩;rw[aQ V V]
  .refine D V _ ⟨(b.trans e).trans q,λi v K g=>?_⟩
   by_cases w:i=j
   .subst w;rw[h]at g;simp at g;subst g;intro t;exact fb r f ⟨t.1,V⟩
   .exact s i v V g
 .refine⟨_,rfl,Or.inr ⟨rfl,λt=>?_⟩,b⟩;let⟨i,d,o,e,A⟩:=uQ a c.toNat V;exact s i d (oh (av o)) o ⟨V,V⟩
def cD(a:List bz)(c:Int):List Int:=if 0<=c then((eR a)[c.toNat]?).getD []else[]
def Gl{bo:O}{a:List bz}(hd:cw m bo a)(d:dT a)(c:Int):aN cg 201 [O.v bo,vi c] m λx l=>∃s,x=O.v s/\ap l s (cD a c)/\J m l:=by
 apply rq;have E:=hd.len;have:=d.len;refine(mh hd d c).mono ?_;rintro _ H ⟨K,rfl,h,e⟩;refine⟨_,rfl,dit (λu=>?_) λu=>?_⟩
 .refine⟨_,rfl,?_,e.aK _⟩;have g:cD a c=[]:=by
   rcases h with⟨i,f,v,_⟩|⟨_,b⟩
   .omega
   .unfold cD;split
    .rw[cO V];rfl
    .rfl
  rw[g];exact⟨rfl,ad _,aL,aL⟩
 .rcases h with⟨i,f,rfl,b,B,C⟩|⟨v,_⟩
  .have G:=av b;let⟨q,j,z,g1,g2⟩:=(cw.ext e hd).aF b;have n:cT ((i:Int)+1 -1)=i:=by rw[aQ V V];omega
   rw[n];refine⟨V,V,q,by simpa using g2,?_⟩;refine(j7 (cw.ext e hd) d V).then λI g=>⟨_,rfl,g.da (by simpa using g2),?_⟩;have A:=qW d i;have D:=lx d b;have F:=j.len;let⟨y,k⟩:=cG f.cons ((c -fc a i).toNat);let⟨r,w,t⟩:=(oX.ext g j).aF k;have o:cT (c -(fc a i:Int))=c -fc a i:=aQ V V;rw[o];refine⟨V,V,r,t,_,rfl,?_,e.trans g⟩;have p:cD a c=y:=by
    unfold cD;rw[an V];have:=qV a i (c -fc a i).toNat f b V;rw[show c.toNat=fc a i+(c -fc a i).toNat by omega,this,k];rfl
   rw[p];exact w
  .omega
def cy(a:List bz)(t:Int):List Int:=
 if 1<=t/\t<=a.length then((a[t.toNat -1]?).map λd=>(List.range d.cons.length).map λi=>((fc a (t.toNat -1)+i:Nat):Int)).getD []else[]
def Au{bo:O}{a:List bz}(hd:cw m bo a)(c:dT a)(t:Int):aN cg 136 [O.v bo,vi t] m λI b=>∃s,I=O.v s/\ap b s (cy a t)/\J m b:=by
 apply uB;intro r;have S:=hd.len;have:=c.len;have q:J m r:=(J.az m).aK _;have F:gV m r aA 1 (.mk m.size 0 0 0) []:=gV.new (J.az m) aA 1 [] 0 aL;refine(aY _ _ _ _).then λL W l f=>⟨_,rfl,λh=>?_,λh=>?_⟩
 .refine⟨_,rfl,?_,q.trans f⟩;have e:cy a t=[]:=by
   unfold cy;rw[ae (oh (nb l h))]
  rw[e];exact⟨rfl,ad _,aL,aL⟩
 .have h:=yb l h;have v:cT (t -1)=((t.toNat -1:Nat):Int):=by rw[aQ V V];omega
  rw[v];let⟨e,g⟩:=cG a (t.toNat -1);have w:cy a t=(List.range e.cons.length).map λi=>((fc a (t.toNat -1)+i:Nat):Int):=by
   unfold cy;rw[an V,g];rfl
  rw[w];have Q:=qW c (t.toNat -1);have R:=lx c g;refine ez (n:=e.cons.length) V (λj s b=>J m b/\gV m b aA 1 s (((List.range j).map λi=>((fc a (t.toNat -1)+i:Nat):Int)).map Ce.i)/\s.len=j) ⟨q.trans f,by simpa using F.ext f,rfl⟩ ?_;rintro j s X K μ U ⟨d,o,p⟩ H
  let⟨y,D,M,g1,g2⟩:=(cw.ext d hd).aF g;have T:=D.len;refine⟨V,V,y,by simpa using g2,dit (λz=>?_) λz=>?_⟩
  .refine(j7 (cw.ext d hd) c V).then λG k=>⟨_,rfl,?_⟩;intro u;have x:cT (((fc a (t.toNat -1):Nat):Int)+(j:Int))=((fc a (t.toNat -1)+j:Nat):Int):=by rw[aQ V V];omega
   have E:u=G.push (.cells (bt [.i (((fc a (t.toNat -1)+j:Nat):Int))]) aA):=by rw[<-x]
   clear_value u;subst E;refine gV.append (zs:=[.i 0]) (d:=[.i ((fc a (t.toNat -1)+j:Nat):Int)]) ((o.ext k).ext (J.push _ _)) ((d.trans k).aK _) rfl (cE.push _ _ _).iA (by simp[p];omega) ?_;intro Y b A B C N P _;refine H V _ _ ⟨B,?_,by simp[C,p]⟩
   rw[SA,ft,ft];exact A
  .have:j=e.cons.length:=V;subst this;exact⟨_,rfl,ap.fZ o bE,d⟩
end
end Go.Proofs.YtkicoahejfbjhaaGreat
