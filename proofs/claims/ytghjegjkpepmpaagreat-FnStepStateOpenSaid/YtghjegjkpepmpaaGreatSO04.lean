/- Part of a proof. -/
import Derived.Test.YtghjegjkpepmpaaGreatSO02
import Derived.Test.YtghjegjkpepmpaaGreatSO03
set_option linter.all false
set_option maxHeartbeats 8000000
set_option maxRecDepth 100000
namespace Go.Proofs.YtghjegjkpepmpaaGreat
open Go.Vc
section
def Tr{α:Type}(_:α):Prop:=True
section
variable{a:List Nat}{m:E}{b P:Nat}{c:O}
def ve(hS:∀w∈a,w<m.size)(aa:b∈a)(Z:Rd b c P m)(hP:P+200<=10^16){an ao:O}{x:List bB×List dC}(u:IT (bI a m) an ao x)(ap:UI x)(aA:Int):aO cp 49 [vp b 0,.agg #[O.v an,O.v ao],vi aA] m (PP IT Tr a b c m (P+10)):=by
 apply zm (b,0);simp(config:={maxSteps:=1000000}) -zeta only[aD,aC];have F:=Z.lt;intro d ae;have b2:BS [d.size,m.size] b c m P ae:=BS.psh (BS.lY (S:=a) Z _).1 _;have x2:J m ae:=(J.push m _).trans (J.push d _);have s1:d.size=m.size+1:=by simp[d]
 have t2:IT (bI ([d.size,m.size]++a) ae) an ao x:=IT.mn _ _ _ _ _ (x2.bI λh r=>by
  simp at r;rcases r with e|e|e
  .exact Or.inr V
  .exact Or.inr V
  .exact Or.inl e) u
 clear_value ae;refine b2.pick F V (λ_ o=>o) aA λaM m3 _ _ b3 f3=>?_;have t3:=IT.mn _ _ _ _ _ (BS.le (B:=[d.size,m.size]) aa f3) t2;refine⟨λ_=>b3.iS IT.mn Z aN t3 trivial V _,λ_=>?_⟩;refine(wI (b3.hS hS) (t3.1.le (bD _ _)) (tw ap.2) (iC.le (bD _ _) t3.2) ap.1).mono λ_ f⟨N,q,C,e,A4,hl,x4⟩=>⟨(b3.lw F λ_ o=>o).dz (x4.fz _),N,q,e,?_⟩;have b4:=b3.to (x4.fz _) (b3.s.r.ext x4);intro m5 m6;obtain⟨b6,-,-⟩:=b4.box (S:=a) (m1:=m5) (m2:=m6) rfl rfl rfl;obtain⟨x6,-,-⟩:=kW (M:=f) (d:=m5) (c:=m6) rfl rfl rfl;clear_value m6;have A6:vR ([f.size,d.size,m.size]++a) m m6 N q x.1 C:=A4.re (x6.fz []) aN (λh r=>⟨by
  rcases List.mem_cons.1 r with e|e
  .exact Or.inr V
  .exact Or.inl e,b6.hS hS h r⟩) b3.s.f.size
 have ok:Ed (C.map (·.1)):=hl▸ap.1;have aX:=A6.len;have l4:C.length<=4:=by simpa using ok.oQ
 have l0:0<C.length:=by simpa using ok.jm
 have cl:∀g∈C,g.1.dk.length<=10^12:=λg A=>(vR.oQ ok A).oQ;refine b6.pick F V (λ_ o=>o) (q.len:Int) λp i f0 f1 b7 f7=>?_;have A7:=A6.re f7 (S':=[f.size,d.size,m.size]++a) (by simp[aa]) (λh r=>⟨Or.inl r,b7.hS hS h r⟩) (ad _);let⟨g,A⟩:=cL C p.toNat;let⟨ac,h,g0,g1,g2,g3,g4,aJ,aK⟩:=A7.iL V A;refine⟨f0,V,ac,g0,h,g1,_,g2,_,g3,g.2,g4,?_⟩;intro m8 m9;obtain⟨b9,-,-⟩:=b7.box (S:=a) (m1:=m8) (m2:=m9) rfl rfl rfl;obtain⟨x9,-,-⟩:=kW (M:=i) (d:=m8) (c:=m9) rfl rfl rfl;clear_value m9;have A9:vR ([i.size,f.size,d.size,m.size]++a) m m9 N q x.1 C:=A7.re (x9.fz []) aN (λh r=>⟨by
  rcases List.mem_cons.1 r with e|e
  .exact Or.inr V
  .exact Or.inl e,b9.hS hS h r⟩) (ad _)
 have iS:∀{l:E}{T:O}{ar:List bB×List dC}{Q:Nat},BS [i.size,f.size,d.size,m.size] b c m Q l->IT (bI ([i.size,f.size,d.size,m.size]++a) l) T q ar->Q<=P+10->PP IT Tr a b c m (P+10) (.agg #[O.v T,O.v q]) (ai l d.size 0 [.s T,.s q]):=λh u o=>h.iS IT.mn Z aN u trivial o _;refine⟨λ_=>iS b9 (A9.it V cl) V,λhn=>?_⟩;have hB:∀h∈[b],h∈[i.size,f.size,d.size,m.size]++a:=by simp[aa]
 have W:∀{l n:E}{C:List (dC×O)},vR ([i.size,f.size,d.size,m.size]++a) m l N q x.1 C->Fz [b] l n->vR ([i.size,f.size,d.size,m.size]++a) m n N q x.1 C:=λo p=>o.re p hB (λh r=>⟨Or.inl r,aP (o.lt h r) p.size⟩) (ad _);refine b9.pick F V (λ_ o=>o) 8 λaM H _ _ j au=>?_;have U:=W A9 au;have ay:Le (bI (q.D::([f.size,d.size,m.size]++a)) i) (bI (q.D::([i.size,f.size,d.size,m.size]++a)) H):=(x9.bI λh r=>by
  simp only[df,eH,aW]at r⊢;rcases r with e|e|e
  .exact Or.inl (Or.inl e)
  .exact Or.inr V
  .exact Or.inl (Or.inr e)).trans (au.dj (by simp[aa]))
 have ha:=aJ.le ay;have r:=aK.le ay;have az:∀{l n:E},Fz [b] l n->Le (bI (q.D::([i.size,f.size,d.size,m.size]++a)) l) (bI (q.D::([i.size,f.size,d.size,m.size]++a)) n):=λp=>p.dj (by simp[aa]);have G:=vR.oQ ok (aq A);have done:∀{l:E}{Q:Nat}{D:List Ce}{aE:dC},BS [i.size,f.size,d.size,m.size] b c m Q l->vR ([i.size,f.size,d.size,m.size]++a) m l N q x.1 C->lK (bI (q.D::([i.size,f.size,d.size,m.size]++a)) l) D aE->Q<=P+10->
  0<=p/\p<(q.len:Int)/\fO l q.D (q.off+p.toNat*5) 5/\(eF [i.size,f.size,d.size,m.size] l (ai l q.D (q.off+p.toNat*5) D)/\PP IT Tr a b c m (P+10) (.agg #[O.v N,O.v q]) (ai (ai l q.D (q.off+p.toNat*5) D) d.size 0 [.s N,.s q])):=λ{l Q D aE} h K hp hQ=>by
  let⟨X,ps,tt⟩:=K.aae h.s.f V cl (k:=p.toNat) V hp
  have yq:=K.g.bq
  exact⟨f0,V,X,λw R=>bg _ _ _ _ λe=>K.nq (by rw[<-e];exact bL _ R),iS ⟨h.s.put Z yq.1 _ _,λw R=>by rw[ax];exact h.gN w R⟩ tt hQ⟩
 have v:∀{l n:E}{Q:Nat},BS [i.size,f.size,d.size,m.size] b c m Q l->Fz [b] l n->∀s,af n i.size s=af l i.size s:=λh p s=>kg p F (h.gN _ aN) s;have Y:∀{l n:E}{Q:Nat},BS [i.size,f.size,d.size,m.size] b c m Q l->Fz [b] l n->∀s,af n f.size s=af l f.size s:=λh p s=>kg p F (h.gN _ aN) s;have am:=U.dk (aq A) G.oQ;have av:=j.hS hS;have lq:∀w∈q.D::([i.size,f.size,d.size,m.size]++a),w<H.size:=λw R=>(List.mem_cons.1 R).elim (λe=>e▸U.g.bq.2) (av w);have lY:∀(ls:List Int){D:List Ce}{ag:Nat},D=ls.map Ce.i->ag=ls.length->0<ls.length/\ls.length<=100->∀{ak:Int->E->Prop},(∀u n,BS [i.size,f.size,d.size,m.size] b c m (P+4) n->vR ([i.size,f.size,d.size,m.size]++a) m n N q x.1 C->Le (bI (q.D::([i.size,f.size,d.size,m.size]++a)) H) (bI (q.D::([i.size,f.size,d.size,m.size]++a)) n)->(∀s,af n i.size s=af (H.push (.cells (bz D) aB)) i.size s)->(∀s,af n f.size s=af (H.push (.cells (bz D) aB)) f.size s)->ak u n)->
  aO cp 53 [vp b 0,O.v (.mk H.size 0 ag ag)] (H.push (.cells (bz D) aB)) λah n=>eF [i.size,f.size,d.size,m.size] (H.push (.cells (bz D) aB)) n/\∃u:Int,ah=vi u/\ak u n:=λls{D ag} h1 h2 h3{ak} hk=>by
  have x:=J.push H (.cells (bz D) aB)
  have L:=j.to (x.fz _) (j.s.r.ext x)
  exact(Ar j.s V ls h1 h2 h3).mono λ_ n⟨u,e,_,aS,p⟩=>⟨(L.lw F λ_ o=>o).dz p,u,e,hk u n (L.to p aS.r) (W U ((x.fz _).trans p)) (az ((x.fz _).trans p)) (v L p) (Y L p)⟩
 refine⟨λ_=>?_,λ_=>⟨λ_=>?_,λ_=>⟨λ_=>?_,λ_=>⟨λ_=>?_,λ_=>?_⟩⟩⟩⟩
 .refine(qV j.s.r V (r.le (bD _ _)) (oh G.cY)).mono λ_ ab⟨T,I,e,al,aF,_,aj,t⟩=>⟨(j.lw F λ_ o=>o).dz t,T,e,v j t _,v j t _,v j t _,v j t _,Y j t _,?_⟩;exact done (aE:=⟨g.1.params,I,g.1.aT,g.1.ak,g.1.dk⟩) (j.to t aj) (W U t) ⟨ac,T,g.2,rfl,ha.le (az t),GI.done (GI.any al) lq (by have:=G.cY;show I.length<=_;omega),(W U t).dk (aq A) G.oQ⟩ V
 .have x:=(J.push H (.cells (bz [.i 0,.i 1,.i (cG (g.1.ak+1)),.i 2001,.i (-1)]) aB)).fz [b];exact⟨v j x _,v j x _,v j x _,v j x _,Y j x _,lY [0,1,cG (g.1.ak+1),2001,-1] rfl rfl aN λu n b' K le I e4=>⟨I _,I _,I _,I _,e4 _,done (aE:=⟨g.1.params,g.1.cY,g.1.aT,u,g.1.dk⟩) b' K ⟨ac,h,g.2,rfl,ha.le le,r.le le,K.dk (aq A) G.oQ⟩ V⟩⟩
 .have x:=(J.push H (.cells (bz [.i 0,.i 1,.i 9]) aB)).fz [b];have cl:=am.len;have cc:=am.cap;have c0:=G.jm;have cf:=G.oQ;have ew:cG ((g.2.len:Int) -1)=((g.2.len -1:Nat):Int):=by rw[aR V V];omega
  rw[ew];refine⟨de 0,V,V,v j x _,v j x _,v j x _,v j x _,v j x _,Y j x _,lY [0,1,9] rfl rfl aN λu n b' K le I e4=>⟨I _,I _,I _,I _,I _,e4 _,done (aE:=⟨g.1.params,g.1.cY,u,g.1.ak,g.1.dk.take (g.2.len -1)⟩) b' K ⟨ac,h,g.2.cut 0 (g.2.len -1) 6,rfl,ha.le le,r.le le,eV.TS (K.dk (aq A) G.oQ) V⟩ V⟩⟩
 .refine(JY av (by simp[aa]) j.s.r V).mono λ_ ab⟨T,I,e,hd,aj,t⟩=>⟨(j.lw F λ_ o=>o).dz t,T,e,Y j t _,?_⟩;exact iS (ar:=(I,_)) (j.to t aj) ⟨hd,((W U t).it V cl).2⟩ V
 .have aV:=am.len;have aU:=G.jm;refine j.pick F V (λ_ o=>o) (g.2.len:Int) λaQ ab j0 j1 L t=>?_;have I:=W U t;obtain⟨-,-,-,-,-,-,aG,-,-⟩:=I.iL V A;let⟨ar,hz⟩:=cL g.1.dk aQ.toNat;let⟨a',jj,aH,hj,e0,e1,e2,e3,e4,e5⟩:=(I.dk (aq A) G.oQ).aF hz;have gN:∀{h s:Nat}{ah:Value},af (bI (q.D::([i.size,f.size,d.size,m.size]++a)) ab) h s=some ah->af ab h s=some ah:=λo=>(eS.1 o).2;refine⟨f0,V,g.2,aG,j0,V,_,gN e0,_,gN e1,_,gN e2,_,gN e3,_,gN e4,_,gN e5,?_⟩;have hZ:∀w∈q.D::(Ks C++([i.size,f.size,d.size,m.size]++a)),w<ab.size:=λw R=>by
   rcases List.mem_cons.1 R with e|e
   .rw[e];exact I.g.bq.2
   .rcases List.mem_append.1 e with e|e
    .obtain⟨X,hw,rfl⟩:=List.mem_map.1 e;exact(I.c X hw).bq.2
    .exact I.lt w e
  refine(Hl hZ L.s.r V (aH.le (bD _ _)) (hj.le (bD _ _)) (G.jw ar (aq hz))).mono λ_ aY⟨z',a2,j2,e,aI,aL,_,aT,K⟩=>⟨(L.lw F λ_ o=>o).dz K,_,_,_,_,_,_,e,?_⟩;have aj:=W I K;have al:=L.to K aT;let⟨X,aF⟩:=aj.wr al.s.f A (aw hz) (cs:=[.i z'.op,.i z'.dst,.i z'.bS,.i z'.cg,.s a2,.s j2]) (y:=z') ⟨a2,j2,rfl,aI,aL⟩;have yc:=(aj.c g (aq A)).bq;have yq:=I.g.bq;refine⟨kg K F yq _,Y L K _,j0,V,X,λh r=>bg _ _ _ _ λe=>(aj.nc g (aq A)) (by rw[<-e];exact bL _ r),iS ⟨al.s.put Z yc.1 _ _,λw R=>by rw[ax];exact al.gN w R⟩ (aF.it bG λX hw=>?_) V⟩;rcases cF hw with e|e
  .exact cl X e
  .rw[e];simpa using G.oQ
def JZ(f:∀d∈a,d<m.size)(l:b∈a)(d:Rd b c P m)(K:P+2000+4*(300+40*Cg 18)<=10^16):aO cp 20 [vp b 0] m (PP IT Tr a b c m (P+50+4*(300+40*Cg 18))):=by
 apply CJ (b,0);simp -zeta only[aD,aC];have e:=d.lt;intro g;have z1:g.size=m.size+1:=by simp[g]
 obtain⟨b1,-⟩:BS [m.size] b c m P g/\True:=⟨(BS.lY (S:=a) d _).1,trivial⟩;clear_value g;refine b1.call (S:=a) e (λ_ h=>h) (IK (b1.hS f) (by simp[l]) b1.s.r V) λH Q R o r t2 b2 I=>?_;intro y p;obtain⟨b4,w,-⟩:=b2.box (S:=a) (m1:=y) (m2:=p) rfl rfl rfl;clear_value p;have C:=IT.mn _ _ _ _ _ w t2;have k:b∈[o.size,m.size]++a:=by simp[l]
 refine b4.pick e V (λ_ h=>h) 4 λL M _ _ b5 u=>?_;have q:=IT.mn _ _ _ _ _ (BS.le l u) C;refine⟨λ_=>?_,λ_=>b5.call (S:=a) e (λ_ h=>h) (ve (b5.hS f) k b5.s.r V q r 14) λt B G z F n j v=>j.iS IT.mn d aN n trivial V _⟩;refine b5.call (S:=a) e (λ_ h=>h) (IA (b5.hS f) k b5.s.r V q r) λs A T N E D b6 J=>?_;intro O;let⟨i,x⟩:=b6.put (S:=a) d (by simp:o.size∈_) [.s s,.s A];exact i.call (S:=a) e (λ_ h=>h) (ve (i.hS f) k i.s.r V (IT.mn _ _ _ _ _ x D) E 14) λt B G z F n j v=>j.iS IT.mn d aN n trivial V _
end
end
section
variable{a:Nat}{c:bK}{l:List Int}{x:O}{K:O->E->Prop}{i:Int}
def Nk(l r:List Ce)(o:Nat)(c:Ce)(h:l.length<=o):(l++r).set o c=l++r.set (o -l.length) c:=by
 rw[XZ _ _ h]
def lR:∀(a l r:List Ce)(o:Nat),l.length<=o->jt (l++r) o a=l++jt r (o -l.length) a
 |[],l,r,o,_=>rfl
 |c::a,l,r,o,h=>by
  simp only[jt];rw[Nk _ _ _ _ h,lR a l _ (o+1) V];congr 2;omega
def DP:∀(a l r:List Ce)(o:Nat),o+a.length<=l.length->jt (l++r) o a=jt l o a++r
 |[],l,r,o,_=>rfl
 |c::a,l,r,o,h=>by
  simp only[be]at h;simp only[jt];rw[MM _ _ V,DP a _ _ (o+1) bG]
def Ct{f:Nat}:∀(b:List (List Ce))(a:Nat)(e:List Ce)(o:Nat)(d:List Ce),(∀c∈b,c.length=f)->b[a]? =some e->o+d.length<=f->jt b.flatten (a*f+o) d=(b.set a (jt e o d)).flatten
 |[],a,e,o,d,_,h,_=>by simp at h
 |x::b,0,e,o,d,g,h,j=>by
  simp at h;subst h;have i:=g x aZ;rw[jL,QM,bW,DP _ _ _ _ V,iJ,jL]
 |x::b,a+1,e,o,d,g,h,j=>by
  have i:=g x aZ;rw[jL,lR _ _ _ _ (by rw[i,gT];omega),jA,jL];have k:(a+1)*f+o -x.length=a*f+o:=by rw[i,gT];omega
  rw[k,Ct b a e o d (λc l=>g c (ah _ l)) (by simpa using h) j]
def _root_.Go.Vc.gV.set{α:Type}{e:Nat}{R:List Ce->α->Prop}{f:List (List Ce)}{l:List α}(h:gV e R f l)(a:Nat){cs:List Ce}{x:α}(m:cs.length=e)(n:R cs x):gV e R (f.set a cs) (l.set a x):=by
 refine⟨by simp[h.len],λc b=>?_,λk c y b d=>?_⟩
 .rcases cF b with b|b
  .exact h.size c b
  .rw[b];exact m
 .by_cases j:k=a
  .subst j;have g:=aw b;have i:=aw d;simp at g i;rw[dB g]at b;rw[dB i]at d;simp at b d;subst b;subst d;exact n
  .rw[cx (λg=>j g.symm)]at b d;exact h.dD k c y b d
def _root_.Go.Vc.gV.take{α:Type}{e:Nat}{R:List Ce->α->Prop}{b:List (List Ce)}{l:List α}(h:gV e R b l)(n:Nat):gV e R (b.take n) (l.take n):=by
 refine⟨by simp[h.len],λc a=>h.size c (dF a),λj c y a d=>?_⟩;have f:=aw a;simp at f;rw[dK V]at a d;exact h.dD j c y a d
def Ga{b:Nat}:∀(a:List (List Ce))(n:Nat),(∀c∈a,c.length=b)->a.flatten.take (n*b)=(a.take n).flatten
 |[],n,_=>aN
 |x::a,0,_=>aN
 |x::a,n+1,h=>by
  have d:=h x aZ;rw[jL,List.take_append,nQ (by rw[d,gT];omega),NC,jL];have e:(n+1)*b -x.length=n*b:=by rw[d,gT];omega
  rw[e,Ga a n λc f=>h c (ah _ f)]
section
variable{N:Nat}{d:Nat->Nat}{m:E}{b:O}{h:List bK}
def dO.len(e:dO N d m b h):b.len=h.length:=by
 obtain⟨f,c,a,_⟩:=e;have:=c.len;rw[cy a.size,a.len]at this;omega
def dO.cq(q:dO N d m b h)(e:h[a]? =some c):∃f,af m b.D (b.off+a*3)=some (vi c.aQ)/\af m b.D (b.off+a*3+1)=some (vi c.kE)/\af m b.D (b.off+a*3+2)=some (O.v f)/\ap m f c.aH/\FN N d m f c.aH:=by
 obtain⟨l,o,g,_⟩:=q;let⟨k,j⟩:=cL l a (by rw[g.len];exact aw e);obtain⟨f,rfl,p,n⟩:=g.dD a k c j e;have r:=λi c e=>o.iL (a*3+i) c (fY g.size j e);exact⟨f,r 0 (.i c.aQ) rfl,r 1 (.i c.kE) rfl,r 2 (.s f) rfl,p,n⟩
def dO.cells(g:dO N d m b h)(t:h.length<=9223372036854775807):cU m b h:=by
 have r:=g.len;obtain⟨n,e,a,_⟩:=g;refine⟨r,e.le,V,λk x j=>?_⟩;let⟨l,f⟩:=cL n k (by rw[a.len];exact aw j);obtain⟨o,rfl,q,s⟩:=a.dD k l x f j;refine⟨_,⟨o,rfl,q⟩,λi c p=>?_⟩;have:=e.iL (k*3+i) c (fY a.size f p);rwa[<-dq]at this
def dO.wr(g:dO N d m b h){a o n:Nat}(f:a<h.length)(j:o+n<=3):fO m b.D (b.off+a*3+o) n:=by
 obtain⟨i,e,c,_⟩:=g;rw[dq];exact e.wr (by rw[cy c.size,c.len];have:(a+1)*3<=h.length*3:=dm _ f;omega)
def dO.D(e:dO N d m b h){a:Nat}(i:a<h.length):d b.D=3/\b.D<m.size:=by
 have j:=e.len;obtain⟨f,c,g,_⟩:=e;have:=c.le;have:=c.D V;exact⟨this.2,this.1⟩
def RG(N:Nat)(d:Nat->Nat)(m:E)(b:O)(h:List bK)(f:O)(l:List Int):Prop:=
 l≠[]->(d f.D=0/\N<=f.D/\FB m f l)/\∀(i:Nat)(g:O),i<h.length->af m b.D (b.off+i*3+2)=some (O.v g)->g.len≠0->g.D≠f.D
def FB.gC{b:E}{f:O}(h:ig b m aB 1 f (l.map Ce.i))(d:l≠[]):b.size<=f.D/\FB m f l:=by
 rcases h.aF with e|⟨g,c,tail,e,h2,h3,_,_⟩
 .have a:=h.len;rw[e,eu,O.OZ,QM]at a;exact absurd (List.length_eq_zero_iff.1 a) d
 .rw[e];exact⟨h2,c,tail,rfl,h3⟩
def RG.of{a:E}{w:Nat->Nat}{f:O}(q:dO N w a b h)(s:0<h.length->m[b.D]? =a[b.D]?)(u:l≠[]->ig a m aB 1 f (l.map Ce.i))(k:l≠[]->d f.D=0)(A:N<=a.size):RG N d m b h f l:=λe=>by
 let⟨z,n⟩:=FB.gC (u e) e;refine⟨⟨k e,V,n⟩,λi x r g p=>?_⟩;let⟨c,o⟩:=dG r;obtain⟨y,_,_,v,kf,_⟩:=q.cq o;rw[aI (s V),v]at g;have:=O.BY.1 (jS g);subst this;have t:c.aH≠[]:=λj=>by have:=kf.len;rw[j]at this;simp at this;exact p this
 have:=iQ kf t;omega
def dO.put(L:dO N d m b h)(Z:∀g,m.size<=g->d g=0){o:Nat}{p:bK}(I:h[a]? =some c){new:List Ce}(ho:o+new.length<=3)
 (W:∀r,ap m r c.aH->FN N d m r c.aH->∃f,jt [.i c.aQ,.i c.kE,.s r] o new=[.i p.aQ,.i p.kE,.s f]/\ap m f p.aH/\FN N d m f p.aH/\(f=r\/RG N d m b h f p.aH)):
 dO N d (ai m b.D (b.off+a*3+o) new) b (h.set a p)/\dx (λk=>k=3) d m d (ai m b.D (b.off+a*3+o) new):=by
 have B:=aw I
 have V:=L.D B
 have J:dx (λk=>k=3) d m d (ai m b.D (b.off+a*3+o) new):=dx.ai Z V.1 _ _
 let⟨v,E,n,F⟩:=L
 let⟨S,w⟩:=cL v a (by rw[n.len];exact B)
 obtain⟨r,rfl,X,T⟩:=n.dD a S c w I
 let⟨f,D,K,U,hd⟩:=W r X T
 have Q:∀(j:Nat)(q:List Ce)(g:O),v[j]? =some q->q[2]? =some (.s g)->j≠a->f.len≠0->g.len≠0->f.D≠g.D:=λj q g e H Y s t=>by
  rcases hd with rfl|hd
  .exact F a j _ q f g w e rfl H (λl=>Y l.symm) s t
  .have u:p.aH≠[]:=λl=>by have:=K.len;rw[l]at this;simp at this;exact s this
   refine kT ((hd u).2 j g (by rw[<-n.len];exact aw e) ?_ t);have:=E.iL (j*3+2) _ (fY n.size e H);rwa[<-dq]at this
 refine⟨⟨v.set a (jt [.i c.aQ,.i c.kE,.s r] o new),?_,?_,?_⟩,J⟩
 .rw[<-Ct v a _ o new n.size w ho,dq]
  exact E.set (by rw[cy n.size,n.len];have:(a+1)*3<=h.length*3:=dm _ B;omega)
 .rw[D]
  exact(n.set a rfl ⟨f,rfl,K,U⟩).mono (ym.eJ J bn)
 .rw[D]
  have G:=aw w
  intro i j C q x R u e z A y s t
  by_cases M:i=a
  .subst M
   rw[dB G]at u
   rw[cx y]at e
   simp at u;subst u
   simp at z;subst z
   exact Q j q R e A (λl=>y l.symm) s t
  .rw[cx (λl=>M l.symm)]at u
   by_cases P:j=a
   .subst P
    rw[dB G]at e
    simp at e;subst e
    simp at A;subst A
    exact kT (Q i C x u z y t s)
   .rw[cx (λl=>P l.symm)]at e
    exact F i j C q x R u e z A y s t
def dO.rO(j:dO N d m b h)(k:∀e,m.size<=e->d e=0)(g:h[a]? =some c)(n:Int):
 dO N d (ai m b.D (b.off+a*3) [.i n]) b (h.set a {c with aQ:=n})/\dx (λe=>e=3) d m d (ai m b.D (b.off+a*3) [.i n]):=
 j.put k g (o:=0) (new:=[.i n]) aN λf i e=>⟨f,rfl,i,e,Or.inl rfl⟩
def dO.setCell(k:dO N d m b h)(q:∀e,m.size<=e->d e=0)(g:a<h.length)(n t:Int){f:O}(j:ap m f l)(e:RG N d m b h f l):
 dO N d (ai m b.D (b.off+a*3) [.i n,.i t,.s f]) b (h.set a ⟨n,t,l⟩)/\dx (λi=>i=3) d m d (ai m b.D (b.off+a*3) [.i n,.i t,.s f]):=by
 let⟨c,i⟩:=dG g
 exact k.put q i (o:=0) (new:=[.i n,.i t,.s f]) aN λr u s=>⟨f,rfl,j,λp=>(e p).1,Or.inr e⟩
def dO.cut(j:dO N d m b h){n:Nat}(v:n<=h.length):dO N d m (b.cut 0 n 3) (h.take n):=by
 have u:=j.len;let⟨f,q,g,r⟩:=j;refine⟨f.take n,by rw[<-Ga f n g.size];exact q.cut V,g.take n,λi k o p a l c e=>?_⟩;have s:i<n:=by have:=aw c;simp at this;omega
 have t:k<n:=by have:=aw e;simp at this;omega
 rw[dK s]at c;rw[dK t]at e;exact r i k o p a l c e
def dO.push(F:dO N d m b h)(Q:∀c,m.size<=c->d c=0)(S:x.len=1){p t:Int}{f:O}(R:fS m x.D x.off [.i p,.i t,.s f])(E:ap m f l)(C:RG N d m b h f l)(W:h.length<=2000000000)
 (M:∀z y w,dO N z w y (h++[⟨p,t,l⟩])->dx (λk=>k=3) d m z w->K y w):jT m my [.i (0:Int),.i (0:Int),.s O.nil] 40 b x K:=by
 have U:=F.len
 let⟨k,D,A,J⟩:=F
 refine iR.append (zs:=[.i 0,.i 0,.s .nil]) (c:=[.i p,.i t,.s f]) D Q (by simp[S]) R V λz y w T H=>M z y w ⟨k++[[.i p,.i t,.s f]],by simpa using T,(A.yV (cs:=[.i p,.i t,.s f]) (x:=⟨p,t,l⟩) rfl ⟨f,rfl,E,λe=>(C e).1⟩).mono (ym.eJ H bn),?_⟩ H
 have G:∀(o:Nat)(q:List Ce)(c:O),k[o]? =some q->q[2]? =some (.s c)->f.len≠0->c.len≠0->f.D≠c.D:=λo q c v s e n=>by
  have P:l≠[]:=λI=>by have:=E.len;rw[I]at this;simp at this;exact e this
  refine kT ((C P).2 o c (by rw[<-A.len];exact aw v) ?_ n);have:=D.iL (o*3+2) _ (fY A.size v s);rwa[<-dq]at this
 have Ng:∀{i:Nat}{j:List Ce}{a:O},(k++[[.i p,.i t,.s f]])[i]? =some j->j[2]? =some (.s a)->k[i]? =some j\/(i=k.length/\a=f):=λ{i j a} g r=>by
  rcases aX i k.length with e|e
  .rw[az e]at g;exact Or.inl g
  .rw[aK e]at g;have n:i -k.length=0:=by have:=aw g;simp at this;omega
   rw[n]at g;simp at g;subst g;simp at r;exact Or.inr ⟨V,r.symm⟩
 intro i o j q a c g v r s L e n
 rcases Ng g r with B|⟨B,rfl⟩
 .rcases Ng v s with u|⟨u,rfl⟩
  .exact J i o j q a c B u r s L e n
  .exact kT (G i j a B r n e)
 .rcases Ng v s with u|⟨u,rfl⟩
  .exact G o q c u s e n
  .omega
end
structure tv(ro:Nat->Nat)(m:E)(fr:O)(fs:List aY)(f:aY)(r o h:O)(css:List (List Ce)):Prop where
 qD:iR ro m dS 6 4 fr (css.flatten++[.i f.fw,.i f.pc,.i f.dst,.s r,.s o,.s h])
 len:css.length=fs.length
 size:∀cs∈css,cs.length=6
 dD:∀(i:Nat)(cs:List Ce)(g:aY),css[i]? =some cs->fs[i]? =some g->Tt ro m i cs g
 ak:iR ro m aB 1 (10+3*fs.length) r (f.ak.map Ce.i)
 aS:iR ro m aB 1 (11+3*fs.length) o (f.aS.map Ce.i)
 ba:iR ro m aB 1 (12+3*fs.length) h (f.ba.map Ce.i)
section
variable{d n:Nat->Nat}{m k:E}{b:O}{a:List aY}{f:aY}{r e h:O}{j:List (List Ce)}
def nU.fW(n:nU d m b (a++[f])):∃r e h j,tv d m b a f r e h j:=by
 let⟨j,u,l,v,p⟩:=n;have o:j≠[]:=λc=>by rw[c]at l;simp at l
 have c:j=j.dropLast++[j.getLast o]:=(fy o).symm;generalize j.dropLast=c0 at c;generalize j.getLast o=cl at c;subst c;have t:c0.length=a.length:=by simpa using l
 obtain⟨r,e,h,rfl,y,x,n⟩:=p a.length cl f (by rw[aK V];simp[t]) aN;refine⟨r,e,h,c0,by simpa using u,t,λk w=>v k (by simp[w]),λi k g q s=>p i k g ?_ ?_,y,x,n⟩
 .rw[az (aw q)];exact q
 .rw[az (aw s)];exact s
def tv.tq(T:tv d m b a f r e h j):nU d m b (a++[f]):=by
 refine⟨j++[[.i f.fw,.i f.pc,.i f.dst,.s r,.s e,.s h]],by simpa using T.qD,by simp[T.len],λl c=>?_,λi l o g k=>?_⟩
 .rcases List.mem_append.1 c with c|c
  .exact T.size l c
  .simp at c;subst c;rfl
 .rcases aX i a.length with n|n
  .rw[az (by rw[T.len];exact n)]at g;rw[az n]at k;exact T.dD i l o g k
  .have p:i=a.length:=by have:=aw k;simp at this;omega
   subst p;rw[aK (by rw[T.len];omega)]at g;simp[T.len]at g k;subst g;subst k;exact⟨r,e,h,rfl,T.ak,T.aS,T.ba⟩
def tv.yo(T:tv d m b a f r e h j):b.len=a.length+1:=by
 have:=T.qD.len;simp only[bh,cy T.size,T.len,be,eY]at this;omega
def tv.iL(T:tv d m b a f r e h j):af m b.D (b.off+a.length*6)=some (vi f.fw)/\af m b.D (b.off+a.length*6+1)=some (vi f.pc)/\af m b.D (b.off+a.length*6+2)=some (vi f.dst)/\
 af m b.D (b.off+a.length*6+3)=some (O.v r)/\af m b.D (b.off+a.length*6+4)=some (O.v e)/\af m b.D (b.off+a.length*6+5)=some (O.v h):=by
 have l:j.flatten.length=a.length*6:=by rw[cy T.size,T.len]
 have g:=λ(i:Nat)(c:Ce)(k:[Ce.i f.fw,Ce.i f.pc,Ce.i f.dst,Ce.s r,Ce.s e,Ce.s h][i]? =some c)=>T.qD.iL (a.length*6+i) c (by rw[aK V,l,HH];exact k)
 exact⟨g 0 (.i f.fw) rfl,g 1 (.i f.pc) rfl,g 2 (.i f.dst) rfl,g 3 (.s r) rfl,g 4 (.s e) rfl,g 5 (.s h) rfl⟩
def tv.eJ{p:Nat->Prop}(T:tv d m b a f r e h j)(c:dx p d m n k)(g:∀l,(l=4\/10<=l)->¬p l):tv n k b a f r e h j:=
 ⟨T.qD.eJ c (g _ V),T.len,T.size,λi o q s t=>(T.dD i o q s t).eJ c λl u _=>g l V,T.ak.eJ c (g _ V),T.aS.eJ c (g _ V),T.ba.eJ c (g _ V)⟩
def tv.ext(T:tv d m b a f r e h j)(g:∀c,m.size<=c->d c=0)(c:J m k):tv d k b a f r e h j:=T.eJ (dx.eI (λ_=>False) c g) λ_ _=>id
def tv.yv{p:Nat->Prop}(T:tv d m b a f r e h j)(s:dx p d m n k)(t:∀c,10<=c->c<10+3*a.length->¬p c):∀(i:Nat)(g:List Ce)(l:aY),j[i]? =some g->a[i]? =some l->Tt n k i g l:=λi g l q o=>
 (T.dD i g l q o).eJ s λc u _=>t c V (oh (aw o))
def tv.AE(T:tv d m b a f r e h j)(p:∀c,m.size<=c->d c=0)(n:0<=i)(g:i<f.ak.length)(v:Int):
 tv d (ai m r.D (r.off+i.toNat*1) [.i v]) b a {f with ak:=gA f.ak i v} r e h j/\dx (λk=>4<=k/\k≠9) d m d (ai m r.D (r.off+i.toNat*1) [.i v]):=by
 have o:r.cap≠0:=λl=>by have:=(T.ak.DF l).1;simp at this;rw[this]at g;simp at g;omega
 have c:dx (λk=>k=10+3*a.length) d m d (ai m r.D (r.off+i.toNat*1) [.i v]):=dx.ai p (T.ak.D o).2 _ _
 exact⟨⟨T.qD.eJ c V,T.len,T.size,T.yv c λk _ q=>V,T.ak.gA n g v,T.aS.eJ c V,T.ba.eJ c V⟩,c.mono λk q=>V⟩
def tv.qd(T:tv d m b a f r e h j)(p:∀c,m.size<=c->d c=0)(n:0<=i)(g:i<f.aS.length)(v:Int):
 tv d (ai m e.D (e.off+i.toNat*1) [.i v]) b a {f with aS:=gA f.aS i v} r e h j/\dx (λk=>4<=k/\k≠9) d m d (ai m e.D (e.off+i.toNat*1) [.i v]):=by
 have o:e.cap≠0:=λl=>by have:=(T.aS.DF l).1;simp at this;rw[this]at g;simp at g;omega
 have c:dx (λk=>k=11+3*a.length) d m d (ai m e.D (e.off+i.toNat*1) [.i v]):=dx.ai p (T.aS.D o).2 _ _
 exact⟨⟨T.qD.eJ c V,T.len,T.size,T.yv c λk _ q=>V,T.ak.eJ c V,T.aS.gA n g v,T.ba.eJ c V⟩,c.mono λk q=>V⟩
def tv.xG(T:tv d m b a f r e h j)(p:∀c,m.size<=c->d c=0)(n:0<=i)(g:i<f.ba.length)(v:Int):
 tv d (ai m h.D (h.off+i.toNat*1) [.i v]) b a {f with ba:=gA f.ba i v} r e h j/\dx (λk=>4<=k/\k≠9) d m d (ai m h.D (h.off+i.toNat*1) [.i v]):=by
 have o:h.cap≠0:=λl=>by have:=(T.ba.DF l).1;simp at this;rw[this]at g;simp at g;omega
 have c:dx (λk=>k=12+3*a.length) d m d (ai m h.D (h.off+i.toNat*1) [.i v]):=dx.ai p (T.ba.D o).2 _ _
 exact⟨⟨T.qD.eJ c V,T.len,T.size,T.yv c λk _ q=>V,T.ak.eJ c V,T.aS.eJ c V,T.ba.gA n g v⟩,c.mono λk q=>V⟩
def tv.D(T:tv d m b a f r e h j):d b.D=4/\b.D<m.size:=by
 have:=T.yo;have:=T.qD.le;have:=T.qD.D V;exact⟨this.2,this.1⟩
def tv.Oi(T:tv d m b a f r e h j)(i:∀c,m.size<=c->d c=0)(v:Int):
 tv d (ai m b.D (b.off+a.length*6+1) [.i v]) b a {f with pc:=v} r e h j/\dx (λk=>4<=k/\k≠9) d m d (ai m b.D (b.off+a.length*6+1) [.i v]):=by
 have c:dx (λk=>k=4) d m d (ai m b.D (b.off+a.length*6+1) [.i v]):=dx.ai i T.D.1 _ _
 refine⟨⟨?_,T.len,T.size,T.yv c λk l n=>V,T.ak.eJ c V,T.aS.eJ c V,T.ba.eJ c V⟩,c.mono λk p=>V⟩
 have g:j.flatten.length=a.length*6:=by rw[cy T.size,T.len]
 have:=T.qD.set (o:=a.length*6+1) (new:=[.i v]) (by simp[g])
 rw[lR _ _ _ _ V,g,HH]at this
 rw[dq];exact this
def tv.VF(T:tv d m b a f r e h j):fO m b.D (b.off+a.length*6+1) 1:=by
 rw[dq];exact T.qD.wr (by simp only[bh,cy T.size,T.len,be,eY];omega)
end
def nU.Vx{d:Nat->Nat}{m:E}{c:O}{a:List aY}{f:aY}(e:nU d m c (a++[f])):nU d m (c.cut 0 a.length 6) a:=by
 let⟨r,o,h,b,T⟩:=e.fW;have g:b.flatten.length=a.length*6:=by rw[cy T.size,T.len]
 have:=T.qD.cut (n:=a.length) (by rw[T.yo];omega);rw[nJ V,nQ V]at this;exact⟨b,this,T.len,T.size,T.dD⟩
def nU.push{d:Nat->Nat}{m:E}{l:O}{b:List aY}(D:nU d m l b)(F:∀a,m.size<=a->d a=0)(H:x.len=1){a:aY}{c j g:O}(G:fS m x.D x.off [.i a.fw,.i a.pc,.i a.dst,.s c,.s j,.s g])
 (y:iR d m aB 1 (10+3*b.length) c (a.ak.map Ce.i))(z:iR d m aB 1 (11+3*b.length) j (a.aS.map Ce.i))(A:iR d m aB 1 (12+3*b.length) g (a.ba.map Ce.i))(N:b.length<=1000000)
 (n:∀k c e,nU k e c (b++[a])->dx (λp=>p=4) d m k e->K c e):jT m dS [.i (0:Int),.i (0:Int),.i (0:Int),.s O.nil,.s O.nil,.s O.nil] 96 l x K:=by
 let⟨v,q,s,t,J⟩:=D
 have M:l.len=b.length:=by have:=q.len;rw[cy t,s]at this;omega
 refine iR.append (zs:=[.i 0,.i 0,.i 0,.s .nil,.s .nil,.s .nil]) (c:=[.i a.fw,.i a.pc,.i a.dst,.s c,.s j,.s g]) q F (by simp[H]) G V λk L e I p2=>n k L e ?_ p2
 exact tv.tq (f:=a) (a:=b) (j:=v) (r:=c) (e:=j) (h:=g) ⟨by simpa using I,s,t,λi u w B C=>(J i u w B C).eJ p2 λp n _=>V,y.eJ p2 V,z.eJ p2 V,A.eJ p2 V⟩
end
section
variable{m:E}{d:List bK}{g:Nat->Nat}{b k N j:Nat}{q r:List Int}{c:bK}{i:Int}{e:Nat->Int}
def zZ:∀(d:List bK)(k:Nat),k<=d.length->(∀c∈d.take k,c.aQ≠0)->k<=dJ d
 |[],k,a,_=>by simp at a;simp[a]
 |c::d,0,_,_=>dQ _
 |c::d,k+1,a,b=>by
  have f:=b c aN;have:=zZ d k (by simpa using a) (λe hd=>b e (by simp[hd]));simp only[dJ];rw[ae f];omega
def HZ:∀(d:List bK)(k:Nat)(c:bK),(∀b∈d.take k,b.aQ≠0)->d[k]? =some c->c.aQ=0->dJ d=k
 |[],k,c,_,a,_=>by simp at a
 |b::d,0,c,_,a,e=>by simp at a;subst a;simp[dJ,e]
 |b::d,k+1,c,f,a,e=>by
  have g:=f b aN;have:=HZ d k c (λx h=>f x (by simp[h])) (by simpa using a) e;simp only[dJ];rw[ae g,this]
def GY{i:O}(g:cU m i d):HL cp 155 [O.v i] m (vi (dJ d)):=by
 apply Ba;have p:=g.len;refine dW (n:=d.length) (p▸g.gX) (λk a=>J m a/\∀c∈d.take k,c.aQ≠0) ⟨J.aA _,aN⟩ ?_;rintro k t I μ o ⟨a,h⟩ q
 refine dit (λl=>?_) λl=>?_
 .let⟨c,f⟩:=cL d k;obtain⟨r,s,j,_⟩:=(cU.ext a g).aF f;refine⟨V,V,c.aQ,by simpa using j,λb=>⟨?_,a⟩,λb=>q V _ ⟨a,bE f h (by simpa using b)⟩⟩;rw[HZ d k c h f (by simpa using b)]
 .refine⟨?_,a⟩;have:=zZ d k o h;have:=qL d;have e:(i.len:Int)=(dJ d:Int):=V;rw[e]
def oJ(g:Nat->Nat)(b k:Nat):Nat->Nat:=λc=>if c=b then k else g c
def fK(g:Nat->Nat)(b k:Nat):oJ g b k b=k:=ao rfl
def eX{c:Nat}(d:c≠b):oJ g b k c=g c:=ae d
def dx.oJ{p:Nat->Prop}{m':E}(d:J m m')(e:∀b,m.size<=b->g b=0)(f:m.size<=b)(h:b<m'.size)(k:Nat):dx p g m (oJ g b k) m':=
 ⟨d.size,λc a=>eX V,λc a=>by rw[eX V];exact e c (bJ d.size a),λc a _=>d.same c a⟩
def Nu{s:O}(f:dO N g m s d)(p:∀b,m.size<=b->g b=0){c:Nat}(ha:c<=d.length)(w:Int){G:O}(T:ap m G q)(W:d.length<=2000000000)(L:q.length<=1000000000)(I:N<=m.size):
 aO cp 156 [O.v s,vi c,vi w,O.v G] m λZ S=>∃v M,Z=O.v M/\dO N v S M (jv d c ⟨1,w,q⟩)/\HC g m v S:=by
 apply Jb
 simp -zeta only[aD,aC]
 refine(gW T L).then L λE u o1 Q H=>⟨E,rfl,?_⟩
 intro X a
 have n:J u a:=((J.aA u).aL _).ai (ad _) _ _
 have s3:a.size=u.size+1:=by simp[a,X,ax]
 have t:=H.trans n
 clear_value a
 have y:HC g m g a:=dx.eI _ t p
 have C:=y.new
 have A:dO N g a s d:=f.eJ (dx.eI (λ_=>False) t p) id id
 have aa:=f.len
 have R:=Q.ext n
 have P:q≠[]->g E.D=0:=λU=>by
  rcases o1.D with e|e
  .subst e;have:=Q.len;simp at this;exact absurd (List.length_eq_zero_iff.1 this.symm) U
  .exact p _ e
 have K:g u.size=0:=p _ H.size
 refine⟨λe=>?_,λe=>?_⟩
 .simp at e
  intro h
  have i:J a h:=(J.aA a).aL _
  have jD:fS h a.size 0 [.i 1,.i w,.s E]:=(cK.push a _ _).iL
  have F:HC g m g h:=y.trans (dx.eI _ i C)
  have s4:h.size=a.size+1:=by simp[h]
  clear_value h
  refine dO.push (A.eJ (dx.eI (λ_=>False) i C) id id) F.new (x:=.mk a.size 0 1 1) rfl jD (R.ext i) (RG.of f (λz=>(t.trans i).same _ (f.D z).2) (λ_=>o1.ext (n.trans i)) P I) W λv r Y D l=>⟨λb j=>?_,v,r,rfl,?_,F.trans (l.mono λk B=>Or.inl B)⟩
  .simp at j;subst j
   exact l.eC _ V (by rw[K];decide)
  .rw[jv,ao V];exact D
 .simp at e
  have h:c<d.length:=V
  have i:Int.toNat (c:Int)=c:=V
  rw[i]
  refine⟨V,V,A.wr (o:=0) h bn,?_⟩
  intro Y
  let⟨D,l⟩:=A.setCell C h 1 w R (RG.of f (λz=>t.same _ (f.D z).2) (λ_=>o1.ext n) P I)
  refine⟨λb j=>?_,g,s,rfl,?_,y.trans (l.mono λk B=>Or.inl B)⟩
  .simp at j;subst j
   exact l.eC _ V (by rw[K];decide)
  .rw[jv,ae V];exact D
def MH(b:d[j]? =some c)(a:c.aQ≠0):jy d (j+1)=j+1:=by
 simp only[jy,b];rw[ae a]
def Qy(b:d[j]? =some c)(a:c.aQ=0):jy d (j+1)=jy d j:=by
 simp only[jy,b];rw[ao a]
def ye{a:O}(b:cU m a d):aO cp 159 [O.v a] m λv n=>v=O.v (a.cut 0 (jy d d.length) 3)/\J m n:=by
 apply Kv;have w:=b.len;have t:=b.cap;have x:=b.gX;refine⟨λi n=>J m n/\∃j:Nat,i=j/\j<=d.length/\jy d j=jy d d.length,λi _=>i.toNat,⟨J.aA _,d.length,V,ad _,rfl⟩,?_⟩;rintro i r ⟨l,j,rfl,y,o⟩;have iS:jy d j=j->Value.slice=Value.slice->(0:Int)<=(0:Int)/\(0:Int)<=(j:Int)/\(j:Int)<=(a.cap:Int)/\(O.v (O.cut a (Int.toNat (0:Int)) (Int.toNat (j:Int)) 3)=O.v (a.cut 0 (jy d d.length) 3)/\J m r):=λe _=>by
  refine⟨V,V,V,?_,l⟩;rw[<-o,e];rfl
 refine⟨λf=>?_,λf=>?_⟩
 .simp only[kU,ar]at f;obtain⟨k,rfl⟩:∃k,j=k+1:=⟨j -1,V⟩;have p:cG (((k+1:Nat):Int) -1)=(k:Int):=by rw[aR V V];omega
  rw[p];let⟨c,h⟩:=cL d k;obtain⟨s,u,q,_⟩:=(cU.ext l b).aF h;refine⟨V,V,c.aQ,by simpa using q,λg=>⟨⟨l,k,rfl,V,?_⟩,by show(k:Int).toNat<((k+1:Nat):Int).toNat;omega⟩,λg=>iS (MH h (by simpa using g)) rfl⟩;rw[<-o,Qy h (by simpa using g)]
 .simp only[kU,bO]at f;have:j=0:=V;subst this;exact iS rfl rfl
def iR.Vx{s:O}(d:iR g m aB 1 k s ((q++[i]).map Ce.i)):s.len=q.length+1/\af m s.D (s.off+q.length*1)=some (vi i)/\iR g m aB 1 k (s.cut 0 q.length 1) (q.map Ce.i):=by
 have a:s.len=q.length+1:=by have:=d.len;simp at this;omega
 refine⟨a,?_,?_⟩
 .have:=d.iL q.length (.i i) aN;rw[eT];exact this
 .have:=d.cut (n:=q.length) V;rw[eT,fA,nJ aN,nQ aN]at this;exact this
def fL.RS(h:fL d (λb=>e b+eD (i::r) b))(c:∀b,0<=e b)(a:fQ d i)(f:(aM d i).aQ=1):fL (d.set (ix i) jd) (λb=>e b+eD ((aM d i).aH.reverse++r) b):=by
 let⟨g,j⟩:=bP a;refine fL.Gc h g f ?_ bn bn rfl (by simp[jd]) (by simp[jd]) (λ_=>rfl) λb=>?_
 .simp only[jf a.1,ao];have:=c (ix i);have:=iO r (ix i);omega
 .simp only[jf a.1,mq,Aq];omega
def fL.PQ(c:fL d (λb=>e b+eD (i::r) b))(g:∀b,0<=e b)(f:fQ d i)(j:(aM d i).aQ≠1):fL (fu d i) (λb=>e b+eD r b):=by
 let⟨a,h⟩:=bP f;have k:=(c.cell _ (aq a)).hi;refine fL.KC c a h V V (λb=>?_) ?_
 .simp only[jf f.1];split<;>omega
 .have:=g (ix i);have:=iO r (ix i);omega
def fL.RQ(a:fL d (λb=>e b+eD (i::r) b))(c:i<1000):fL d (λb=>e b+eD r b):=
 a.congr λb=>by simp only[eD];rw[ae V];omega
def fL.PO(f:fL d (λb=>e b+eD (i::r) b))(c:∀b,0<=e b)(a:1000<=i):fQ d i:=
 ⟨a,f.lv _ (by simp only[jf a,ao];have:=c (ix i);have:=iO r (ix i);omega)⟩
def Cy:List bK->Nat
 |[]=>0
 |c::d=>c.aH.length+Cy d
def Aa:∀{d:List bK}{e:Nat}{c:bK}(b:bK),d[e]? =some c->Cy (d.set e b)+c.aH.length=Cy d+b.aH.length
 |[],e,c,b,d=>by simp at d
 |g::d,0,c,b,f=>by simp at f;subst f;simp only[iJ,Cy];omega
 |g::d,e+1,c,b,f=>by
  have:=Aa (d:=d) (e:=e) b (by simpa using f);simp only[jA,Cy];omega
def OT:∀{d:List bK},(∀c∈d,c.aH.length<=3)->Cy d<=3*d.length
 |[],_=>by simp[Cy]
 |c::d,a=>by
  have:=OT (λb hd=>a b (ah _ hd));have:=a c aZ;simp only[Cy,be];omega
def GW{D:O}(hh:dO N g m D d)(hn:∀b,m.size<=b->g b=0){ws:O}(hw:ap m ws [i])(hI:fL d (λb=>e b+eD [i] b))(X:∀b,0<=e b)(aL:d.length<=2000000000):
 aO cp 114 [O.v D,O.v ws] m λaD v=>∃y al,aD=O.v al/\dO N y v al (mZ (iz d [i]))/\HC g m y v:=by
 apply A2
 refine(gW hw aN).then aN λs M o1 i1 h1=>⟨s,rfl,?_⟩
 have an:s≠.nil:=λe=>by subst e;have:=i1.len;simp at this
 have G:m.size<=s.D/\s.D<M.size:=by
  rcases o1.D with e|e
  .exact absurd e an
  .rcases o1.lt with z|z
   .exact absurd z an
   .exact⟨e,z⟩
 have c1:HC g m (oJ g s.D 6) M:=dx.oJ h1 hn G.1 G.2 6
 have a1:iR (oJ g s.D 6) M aB 1 6 s ([i].map Ce.i):=iR.gC o1 λ_=>fK _ _ _
 have ay:dO N (oJ g s.D 6) M D d:=hh.eJ (dx.oJ (p:=λ_=>False) h1 hn G.1 G.2 6) id id
 have aI:=OT λc a=>(hI.cell c a).fl
 have aJ:=hh.len
 refine Pp (γ:=List bK×List Int) (λh E v=>∃y,dO N y v D h.1/\iR y v aB 1 6 E (h.2.reverse.map Ce.i)/\HC g m y v/\fL h.1 (λb=>e b+eD h.2 b)/\iz h.1 h.2=iz d [i]/\h.1.length=d.length/\h.2.length+Cy h.1<=1+Cy d) (λh=>Cx h.1+h.2.length) (d,[i])
  ⟨_,ay,a1,c1,hI,rfl,rfl,aN⟩ ?_
 rintro⟨a,st⟩ E m2 aE μ ⟨q,A,a2,h,t,u,K,ae⟩ ab
 simp only[]at A a2 t u K ae
 have au:E.len=st.length:=by have:=a2.len;simp at this;omega
 refine⟨λS=>?_,λS=>?_⟩
 .simp only[kU,ar]at S
  cases st with
  |nil=>simp at au;omega
  |cons x r=>
   simp only[QJ]at a2
   let⟨p1,p2,p3⟩:=a2.Vx
   simp only[be,ng]at au p1 p2 p3 ae
   have e1:cG ((E.len:Int) -1)=(r.length:Int):=by rw[aR V V];omega
   have aF:=a2.le
   rw[e1]
   have z:Int.toNat (0:Int)=0:=rfl
   have e3:Int.toNat (r.length:Int)=r.length:=V
   rw[z,e3]
   refine⟨V,V,x,p2,V,V,V,(dY _ _).then λb P hb n=>⟨b,rfl,λax=>?_,λav=>?_⟩⟩
   .have hx:=hb.1 ax
    have C:=t.PO X hx
    let⟨j,am⟩:=bP C
    have ah:=aw j
    have aA:ix x=(x -1000).toNat:=rfl
    have aK:=(t.cell _ (aq j)).hi
    have e4:cG (x -1000)=x -1000:=aR V V
    rw[e4,<-aA]
    have H:HC q m2 q P:=dx.eI _ n h.new
    have Z:dO N q P D a:=A.eJ (dx.eI (λ_=>False) n h.new) id id
    have a3:=p3.eJ (dx.eI (λ_=>False) n h.new) id
    obtain⟨f0,g0,_,_,_,_⟩:=Z.cq j
    refine⟨V,V,_,g0,V,V,Z.wr (o:=0) ah bn,?_⟩
    have e5:cG ((aM a x).aQ -1)=(aM a x).aQ -1:=aR V V
    rw[e5]
    intro m4
    let⟨aa,c4⟩:=Z.rO H.new j ((aM a x).aQ -1)
    have a4:=a3.eJ c4 bn
    have R:HC g m q m4:=(h.trans H).trans (c4.mono λk B=>Or.inl B)
    have W:=kK (d:=jd) j
    simp only[ao am,jd]at W
    simp at W
    have aC:(a.set (ix x) {aM a x with aQ:=(aM a x).aQ -1})[ix x]? =some {aM a x with aQ:=(aM a x).aQ -1}:=eK j
    obtain⟨f1,k0,_,k2,kf,kr⟩:=aa.cq aC
    refine⟨V,V,_,k0,λT=>?_,λT=>?_⟩
    .simp only[aG]at T
     have ak:(aM a x).aQ=1:=V
     have aH:=(t.cell _ (aq j)).fl
     have Y:=kf.len
     simp only[]at Y kf kr
     have I:=Aa jd j
     simp only[jd,eY]at I
     refine⟨V,V,f1,k2,iR.append (zs:=[.i 0]) (c:=(aM a x).aH.map Ce.i) a4 R.new (by simp[Y]) kf.Iv ?_ λac aP Q q1 q2=>?_⟩
     .have:(E.cut 0 r.length 1).len=r.length:=by have:=a4.len;simp at this;omega
      rw[this,Y];omega
     have az:=aa.eJ q2 bn bn
     have F:HC g m ac Q:=R.trans (q2.mono λk B=>Or.inr (Or.inr B))
     intro m6
     have U:J Q m6:=(J.aA Q).aL _
     have af:=az.eJ (dx.eI (λ_=>False) U F.new) id id
     have a6:=q1.eJ (dx.eI (λ_=>False) U F.new) id
     have ad:HC g m ac m6:=F.trans (dx.eI _ U F.new)
     clear_value m6
     have ai:ix x<(a.set (ix x) {aM a x with aQ:=(aM a x).aQ -1}).length:=by simpa using ah
     refine⟨V,V,af.wr (o:=0) ai bn,?_⟩
     intro m7
     let⟨ag,c7⟩:=af.setCell ad.new ai 0 0 (f:=.mk Q.size 0 0 0) (l:=[]) ⟨rfl,aN,aN,aN⟩ (λL=>absurd rfl L)
     rw[XH]at ag
     refine ab (a.set (ix x) jd,(aM a x).aH.reverse++r) _ _ ⟨ac,ag,?_,ad.trans (c7.mono λk B=>Or.inl B),t.RS X C ak,?_,by simpa using K,?_⟩ ?_
     .have:=a6.eJ c7 bn
      simpa using this
     .rw[<-tp C ak];exact u
     .simp only[bh,ng]
      have B:Cy (a.set (ix x) jd)+(aM a x).aH.length=Cy a:=by simpa[jd]using I
      omega
     .simp only[bh,ng,be]
      have B:Cx (a.set (ix x) jd)+((aM a x).aQ.toNat+(aM a x).aH.length)=Cx a:=by simpa[jd]using W
      omega
    .simp only[aj]at T
     have L:(aM a x).aQ≠1:=V
     have B:=kK (d:={aM a x with aQ:=(aM a x).aQ -1}) j
     simp only[ao am]at B
     rw[ao V]at B
     have I:=Aa {aM a x with aQ:=(aM a x).aQ -1} j
     refine ab (fu a x,r) _ _ ⟨q,aa,a4,R,t.PQ X C L,?_,by simpa[fu]using K,?_⟩ ?_
     .rw[<-qI C L];exact u
     .simp only[fu];simp only[]at I;omega
     .simp only[fu,be];omega
   .have hx:=fb hb av
    have H:HC q m2 q P:=dx.eI _ n h.new
    refine ab (a,r) _ _ ⟨q,A.eJ (dx.eI (λ_=>False) n h.new) id id,p3.eJ (dx.eI (λ_=>False) n h.new) id,h.trans H,t.RQ V,?_,K,by simp only[];omega⟩ aN
    rw[<-qJ (w:=x) (λj=>hx j.1)];exact u
 .simp only[kU,bO]at S
  have j:st=[]:=List.length_eq_zero_iff.1 V
  subst j
  rw[tn]at u
  subst u
  refine(ye (A.cells V)).mono ?_
  rintro _ P ⟨rfl,n⟩
  refine⟨_,rfl,q,_,rfl,?_,h.trans (dx.eI _ n h.new)⟩
  exact(A.eJ (dx.eI (λ_=>False) n h.new) id id).cut (ue _ _)
end
section
variable{i:Int}
structure ST(m0:E)(ro:Nat->Nat)(m:E)(mb e:Nat)(bx:List Ce)(aU hp fr:O)(lo:List Int)(lh:List bK)(fs:List aY)(f:aY)(r o h:O)(css:List (List Ce)):Prop where
 cX:vS m0 ro m mb e bx aU hp fr lo lh (fs++[f])
 fW:tv ro m fr fs f r o h css
section
variable{g:E}{a t:Nat->Nat}{m s:E}{d e:Nat}{j:List Ce}{aU l b:O}{q:List Int}{n:List bK}{c:List aY}{f:aY}{r o h:O}{k:List (List Ce)}
def ST.ext(S:ST g a m d e j aU l b q n c f r o h k)(i:J m s):ST g a s d e j aU l b q n c f r o h k/\To a m a s:=
 ⟨⟨(S.cX.ext i).1,S.fW.ext S.cX.new i⟩,(S.cX.ext i).2⟩
def ST.AE(S:ST g a m d e j aU l b q n c f r o h k){i:Int}(s:0<=i)(t:i<f.ak.length)(v:Int):ST g a (ai m r.D (r.off+i.toNat*1) [.i v]) d e j aU l b q n c {f with ak:=gA f.ak i v} r o h k/\To a m a (ai m r.D (r.off+i.toNat*1) [.i v]):=by
 let⟨p,u⟩:=S.fW.AE S.cX.new s t v;let⟨w,x⟩:=S.cX.jR u p.tq;exact⟨⟨w,p⟩,x⟩
def ST.qd(S:ST g a m d e j aU l b q n c f r o h k){i:Int}(s:0<=i)(t:i<f.aS.length)(v:Int):ST g a (ai m o.D (o.off+i.toNat*1) [.i v]) d e j aU l b q n c {f with aS:=gA f.aS i v} r o h k/\To a m a (ai m o.D (o.off+i.toNat*1) [.i v]):=by
 let⟨p,u⟩:=S.fW.qd S.cX.new s t v;let⟨w,x⟩:=S.cX.jR u p.tq;exact⟨⟨w,p⟩,x⟩
def ST.xG(S:ST g a m d e j aU l b q n c f r o h k){i:Int}(s:0<=i)(t:i<f.ba.length)(v:Int):ST g a (ai m h.D (h.off+i.toNat*1) [.i v]) d e j aU l b q n c {f with ba:=gA f.ba i v} r o h k/\To a m a (ai m h.D (h.off+i.toNat*1) [.i v]):=by
 let⟨p,u⟩:=S.fW.xG S.cX.new s t v;let⟨w,x⟩:=S.cX.jR u p.tq;exact⟨⟨w,p⟩,x⟩
def ST.Oi(S:ST g a m d e j aU l b q n c f r o h k)(v:Int):ST g a (ai m b.D (b.off+c.length*6+1) [.i v]) d e j aU l b q n c {f with pc:=v} r o h k/\To a m a (ai m b.D (b.off+c.length*6+1) [.i v]):=by
 let⟨i,p⟩:=S.fW.Oi S.cX.new v;let⟨s,t⟩:=S.cX.jR p i.tq;exact⟨⟨s,i⟩,t⟩
def ST.jF(S:ST g a m d e j aU l b q n c f r o h k)(i:Nat)(s:List Ce):ST g a (ai m d i s) d e (jt j i s) aU l b q n c f r o h k/\To a m a (ai m d i s):=by
 let⟨u,v⟩:=S.cX.jF i s;exact⟨⟨u,S.fW.eJ (dx.ai (p:=λt=>t=1) S.cX.new S.cX.QN i s) λt w=>V⟩,v⟩
def ST.gD(S:ST g a m d e j aU l b q n c f r o h k)(i:HC a m t s){p:O}{u:List bK}(x:dO g.size t s p u):ST g t s d e j aU p b q u c f r o h k/\To a m t s:=by
 let⟨v,w⟩:=S.cX.gD i x;exact⟨⟨v,S.fW.eJ i λz y=>V⟩,w⟩
def ST.Ix(S:ST g a m d e j aU l b q n c f r o h k)(i:dx (λp=>p=2) a m t s){v:O}{u:List Int}(y:iR t s aB 1 2 v (u.map Ce.i)):ST g t s d e j v l b u n c f r o h k/\To a m t s:=by
 let⟨w,x⟩:=S.cX.Ix i y;exact⟨⟨w,S.fW.eJ i λp z=>V⟩,x⟩
end
def dx.Rt{c f:Nat->Nat}{m a:E}(h:To c m f a){b:Nat}(e:b<m.size)(d:c b=0):eF [b] m a:=h.dz (by simpa using⟨e,d⟩)
abbrev SB(d p:O)(s:St)(aU b a:O):List Ce:=[.s d,.s p,.i s.cw,.i s.value,.i s.bA,.i s.dX,.s aU,.s b,.s a]
def yI(f:E)(h:Nat->Nat)(m:E)(g:Nat)(e p:O)(s:St)(c:E):Prop:=
 ∃d aU b a,vS f d c g bM (SB e p s aU b a) aU b a s.aU s.heap s.an/\To h m d c
def yI.from{b:E}{f g:Nat->Nat}{m c a:E}{e:Nat}{d p:O}{s:St}(i:yI b g c e d p s a)(n:To f m g c):yI b f m e d p s a:=
 let⟨o,aU,l,h,j,k⟩:=i
 ⟨o,aU,l,h,j,n.trans k⟩
section
variable{k:E}{e:Nat->Nat}{m:E}{g:Nat}{d p aU b c:O}{a:St}{j:List aY}{f:aY}{r l h:O}{q:List (List Ce)}
def kd(S:ST k e m g bM (SB d p a aU b c) aU b c a.aU a.heap j f r l h q)(u:j.length<=100000)(v:Int):
 aO cp 113 [vp g 0,vi v] m λw n=>ST k e n g bM (SB d p a aU b c) aU b c a.aU a.heap j {f with pc:=v} r l h q/\To e m e n:=by
 apply px (g,0)
 have i:af m g 8=some (O.v c):=S.cX.box.cq 8
 have t:=S.fW.yo
 have o:cG ((c.len:Int) -1)=(j.length:Int):=by rw[aR V V];omega
 have s:Int.toNat (j.length:Int)=j.length:=V
 refine⟨c,i,c,i,?_⟩
 rw[o,s]
 exact⟨V,V,S.fW.VF,S.Oi v⟩
def BD(S:ST k e m g bM (SB d p a aU b c) aU b c a.aU a.heap j f r l h q)(P:j.length<=100000)(n:0<=i)(x:i<f.ak.length)(y:i<f.aS.length)(w:Int)(W:0<=f.pc/\f.pc<=100000):
 aO cp 106 [vp g 0,vi i,vi w] m λ_ A=>ST k e A g bM (SB d p a aU b c) aU b c a.aU a.heap j (aY.put {f with pc:=f.pc+1} i w 0) r l h q/\To e m e A:=by
 apply uH (g,0)
 simp -zeta only[aD,aC]
 have z:af m g 8=some (O.v c):=S.cX.box.cq 8
 have T:=S.fW.yo
 have G:cG ((c.len:Int) -1)=(j.length:Int):=by rw[aR V V];omega
 have H:Int.toNat (j.length:Int)=j.length:=V
 let⟨K,g1,g2,L,M,N⟩:=S.fW.iL
 have X:r.len=f.ak.length:=by have:=S.fW.ak.len;simp at this;omega
 have U:l.len=f.aS.length:=by have:=S.fW.aS.len;simp at this;omega
 refine⟨c,z,c,z,?_⟩
 rw[G,H]
 refine⟨V,V,_,K,_,g1,_,g2,r,L,l,M,h,N,?_⟩
 intro R o
 have Q:J m o:=((J.aA m).aL _).ai (ad _) _ _
 have Z:o.size=m.size+1:=by simp[o,R,ax]
 have s:e m.size=0:=S.cX.new _ (ad _)
 let⟨u,t2⟩:=S.ext Q
 clear_value o
 refine⟨n,V,u.fW.ak.Om n x,?_⟩
 intro t
 let⟨v,t3⟩:=u.AE n x w
 have s3:t.size=o.size:=ax _ _ _ _
 refine⟨t3.Rt (show m.size<o.size by omega) s,n,V,v.fW.aS.Om n y,?_⟩
 intro B
 let⟨E,C⟩:=v.qd n (by simpa using y) 0
 have s4:B.size=t.size:=ax _ _ _ _
 have I:cG (f.pc+1)=f.pc+1:=aR V V
 rw[I]
 refine⟨C.Rt (show m.size<t.size by omega) s,(kd E P (f.pc+1)).mono ?_⟩
 rintro _ Y ⟨F,D⟩
 exact⟨D.Rt (show m.size<B.size by omega) s,F,((t2.trans t3).trans C).trans D⟩
def tY(S:ST k e m g bM (SB d p a aU b c) aU b c a.aU a.heap j f r l h q)(ab:j.length<=100000)(n:0<=i)(D:i<f.ak.length)(s:i<f.aS.length)(w:Int):
 aO cp 116 [vp g 0,vi i,vi w] m λ_ H=>ST k e H g bM (SB d p a aU b c) aU b c a.aU a.heap j (f.put i w (gP w)) r l h q/\To e m e H:=by
 apply uG (g,0)
 simp -zeta only[aD,aC]
 have G:af m g 8=some (O.v c):=S.cX.box.cq 8
 have aa:=S.fW.yo
 have N:cG ((c.len:Int) -1)=(j.length:Int):=by rw[aR V V];omega
 have P:Int.toNat (j.length:Int)=j.length:=V
 let⟨R,g1,g2,T,U,W⟩:=S.fW.iL
 have ag:r.len=f.ak.length:=by have:=S.fW.ak.len;simp at this;omega
 have ac:l.len=f.aS.length:=by have:=S.fW.aS.len;simp at this;omega
 refine⟨c,G,c,G,?_⟩
 rw[N,P]
 refine⟨V,V,_,R,_,g1,_,g2,r,T,l,U,h,W,?_⟩
 intro m1 o
 have Z:J m o:=((J.aA m).aL _).ai (ad _) _ _
 have s2:o.size=m.size+1:=by simp[o,m1,ax]
 have t:e m.size=0:=S.cX.new _ (ad _)
 let⟨A,t2⟩:=S.ext Z
 clear_value o
 refine⟨n,V,A.fW.ak.Om n D,?_⟩
 intro x
 let⟨B,t3⟩:=A.AE n D w
 have s3:x.size=o.size:=ax _ _ _ _
 refine⟨t3.Rt (show m.size<o.size by omega) t,n,V,B.fW.aS.Om n s,?_⟩
 intro I
 let⟨L,y⟩:=B.qd n (by simpa using s) 0
 have s4:I.size=x.size:=ax _ _ _ _
 refine⟨y.Rt (show m.size<x.size by omega) t,(dY _ _).mono ?_⟩
 rintro _ m5 ⟨M,rfl,F,E⟩
 let⟨u,z⟩:=L.ext E
 have s5:=E.size
 refine⟨z.Rt (show m.size<I.size by omega) t,M,rfl,λY=>?_,λX=>?_⟩
 .refine⟨n,V,u.fW.aS.Om n (by simpa[gZ]using s),?_⟩
  intro m6
  let⟨C,K⟩:=u.qd n (by simpa[gZ]using s) 1
  refine⟨K.Rt (show m.size<m5.size by omega) t,?_,(((t2.trans t3).trans y).trans z).trans K⟩
  have Q:gA (gA f.aS i 0) i 1=gA f.aS i 1:=by simp[gA,XH]
  have v:gP w=1:=by rw[gP,ao (F.1 Y)]
  simp only[Q]at C
  rw[v];exact C
 .refine⟨?_,((t2.trans t3).trans y).trans z⟩
  have v:gP w=0:=by rw[gP,ae (fb F X)]
  rw[v];exact u
def wB:∀(a:List Int)(g:List bK),(iW g a).length=g.length
 |[],g=>rfl
 |w::a,g=>by rw[iW,wB a];simp[mP]
def Ez:∀(a:List Int)(g:List bK)(w:Int),iW g (a++[w])=mP (iW g a) w
 |[],g,w=>rfl
 |v::a,g,w=>by rw[df,iW,Ez a,iW]
def Av:∀(a:List Int)(g:List bK)(n:Int),(∀c∈g,-10<=c.aQ/\c.aQ<=n)->∀c∈iW g a,-10<=c.aQ/\c.aQ<=n+a.length
 |[],g,n,h,c,b=>by have:=h c b;simp;omega
 |w::a,g,n,h,c,b=>by
  have:=Av a (mP g w) (n+1) (λd hd=>by
   rcases nZ hd with rfl|⟨i,_,f⟩
   .simp only[aM];cases e:g[ix w]? with
    |none=>
     unfold mP at hd;rw[rX (List.getElem?_eq_none_iff.1 e)]at hd;have:=h _ hd;simp only[aM,e]at this⊢;omega
    |some x=>have:=h x (aq e);simp only[vO];omega
   .have:=h d (aq f);omega) c b
  simp only[be];omega
def DQ(L:vS k e m g bM (SB d p a aU b c) aU b c a.aU a.heap j){u:O}{l:List Int}(v:ap m u l)(P:l≠[]->e u.D=0)(K:∀w∈l,1000<=w/\ix w<a.heap.length)(H:∀h∈a.heap,-10<=h.aQ/\h.aQ<=999999)(Z:l.length<=1000000)(W:a.heap.length<=2000000000):
 aO cp 112 [vp g 0,O.v u] m λ_ s=>dO k.size e s b (iW a.heap l)/\dx (λf=>f=3) e m e s:=by
 apply vI (g,0)
 have aa:=v.len
 have I:af m g 7=some (O.v b):=L.box.cq 7
 refine dW (n:=l.length) V (λf s=>dO k.size e s b (iW a.heap (l.take f))/\dx (λf=>f=3) e m e s) ⟨L.heap,dx.aA _ L.new⟩ ?_
 rintro f A S μ X ⟨i,q⟩ R
 refine dit (λF=>?_) λF=>?_
 .let⟨x,r⟩:=cL l f
  let⟨ab,z⟩:=K x (aq r)
  have y:l≠[]:=λB=>by rw[B]at r;simp at r
  have Q:ap A u l:=jb v λ_=>q.eC _ (iQ v y) (by rw[P y];decide)
  have w:af A g 7=some (O.v b):=by rw[aI (q.eC _ L.box.lt (by rw[L.QN];decide))];exact I
  have N:=i.len
  rw[wB]at N
  let⟨h,t⟩:=cL (iW a.heap (l.take f)) (ix x) (by rw[wB];exact z)
  obtain⟨T,E,_⟩:=i.cq t
  have M:ix x=(x -1000).toNat:=rfl
  have C:cG (x -1000)=x -1000:=aR V V
  have U:=Av (l.take f) a.heap 999999 H h (aq t)
  have Y:((l.take f).length:Int)<=1000000:=bG
  have D:cG (h.aQ+1)=h.aQ+1:=aR V V
  refine⟨V,V,x,by simpa using Q.aF r,b,w,b,w,?_⟩
  rw[C,<-M]
  refine⟨V,V,h.aQ,E,V,V,i.wr (o:=0) (by rw[wB];exact z) bn,?_⟩
  rw[D]
  let⟨J,G⟩:=i.rO q.new t (h.aQ+1)
  refine R V _ ⟨?_,q.trans G⟩
  rw[aV r,Ez]
  have:aM (iW a.heap (l.take f)) x=h:=by simp[aM,t]
  unfold mP
  rw[this];exact J
 .rw[bZ V]at i
  exact⟨i,q⟩
def BJ(L:vS k e m g bM (SB d p a aU b c) aU b c a.aU a.heap j){w:Int}(z:fQ a.heap w){i:Nat->Int}(q:fL a.heap i)(M:a.heap.length<=2000000000):
 aO cp 158 [vp g 0,vi w] m λD t=>∃h:Bool,D=vb h/\(h=true<->(aM a.heap w).aQ=1)/\dx (λx=>x=3) e m e t/\(h=true->dO k.size e t b a.heap)/\(h=false->dO k.size e t b (iW (fu a.heap w) (lx (aM a.heap w).aH))):=by
 apply uI (g,0)
 let⟨f,ad⟩:=bP z
 have P:=aw f
 have ab:=L.heap.len
 have N:ix w=(w -1000).toNat:=rfl
 have aa:=z.1
 have G:cG (w -1000)=w -1000:=aR V V
 have r:af m g 7=some (O.v b):=L.box.cq 7
 have ac:=(q.cell _ (aq f)).hi
 have H:cG ((aM a.heap w).aQ -1)=(aM a.heap w).aQ -1:=aR V V
 let⟨U,v,g1,g2,W,X⟩:=L.heap.cq f
 rw[G,<-N]
 refine⟨b,r,V,V,_,v,λn=>⟨true,rfl,by simpa using n,dx.aA _ L.new,λ_=>L.heap,sx⟩,λn=>?_⟩
 simp only[aj]at n
 refine⟨b,r,b,r,V,V,_,v,V,V,L.heap.wr (o:=0) P bn,?_⟩
 rw[H]
 intro m1
 let⟨y,l⟩:=L.heap.rO L.new f ((aM a.heap w).aQ -1)
 let⟨I,k0,k1,T,kf,kr⟩:=y.cq (eK f)
 let⟨u,t1⟩:=L.gD (l.mono λx A=>Or.inl A) y
 have Z:=(q.cell _ (aq f)).fl
 refine⟨b,u.box.cq 7,V,V,I,T,?_⟩
 refine(oW kf (by simp only[];omega)).then (by have:=ou (aM a.heap w).aH;simp only[];omega) λC m2 o2 B x=>⟨C,rfl,?_⟩
 let⟨E,t2⟩:=u.ext x
 have R:lx (aM a.heap w).aH≠[]->e C.D=0:=λQ=>by
  rcases o2.D with i|i
  .subst i;have:=B.len;simp at this;exact absurd (List.length_eq_zero_iff.1 this.symm) Q
  .exact l.new _ i
 have:=ou (aM a.heap w).aH
 refine(DQ (a:={a with heap:=fu a.heap w}) (j:=j) E B R (λD S=>?_) (λF J=>?_) (by simp only[];omega) (by simpa[fu]using M)).mono ?_
 .let⟨K,A⟩:=kM.1 S
  exact⟨A,by simpa[fu]using aw (bP (q.field (aq f) K A)).1⟩
 .rcases nZ J with rfl|⟨h,_,A⟩
  .simp only[];omega
  .have:=q.cell F (aq A);have K:=this.lo;have Y:=this.hi;omega
 .rintro _ Y ⟨K,A⟩
  exact⟨false,rfl,by simpa using n,(l.trans (dx.eI _ x l.new)).trans A,sx,λ_=>K⟩
end
end
section
variable{q:Nat->Nat}{c:E}{e:Nat}{g:List Ce}{x:Instr}{a j:O}{b:Int}
def zG(c:Nat->Nat)(m:E)(a:List Nat):Prop:=∀b∈a,b<m.size/\c b=0
def zG.to{p:Nat->Prop}{e:Nat->Nat}{m:E}{d:List Nat}(h:zG e m d)(t:dx p e m q c):zG q c d:=λb a=>⟨aP (h b a).1 t.size,by rw[t.gY b (h b a).1];exact(h b a).2⟩
def dx.dL{b:Nat->Nat}{m:E}(t:To b m q c){a:List Nat}(h:zG b m a):eF a m c:=t.dz h
def zG.Kw{f:Nat->Nat}{m d e:E}(c:∀b,m.size<=b->f b=0)(g:d.size=m.size+1)(h:e.size=m.size+2):zG f e [d.size,m.size]:=λb a=>by
 simp at a;rcases a with rfl|rfl
 .exact⟨V,c _ V⟩
 .exact⟨V,c _ V⟩
noncomputable def nL (s:St) (a:List aY) (f:aY) (x:Instr) (t:Int):St:=
 open Classical in
 if x.cg≠0/\aF f.ba (x.cg -1)≠0 then
  {s with heap:=s.heap.set (ix (aF f.ba (x.cg -1))) ⟨1,t,cQ f x.args⟩,an:=a++[aY.put {f with pc:=f.pc+1,ba:=gA f.ba (x.cg -1) 0} x.dst (aF f.ba (x.cg -1)) 1]}
 else{s with heap:=jv s.heap (dJ s.heap) ⟨1,t,cQ f x.args⟩,an:=a++[aY.put {f with pc:=f.pc+1} x.dst (1000+dJ s.heap) 1]}
section
variable{F:E}{A:Nat->Nat}{v:E}{D:Nat}{d p aU y B:O}{u:St}{C:List aY}{t:aY}{r z h:O}{G:List (List Ce)}
def ST.Ax{b:List Int}{a:List bK}(S:ST F A v D e g aU y B b a C t r z h G)(c:t.ak.length<=1000000):ap v r t.ak:=S.fW.ak.nX V
def ST.JH{b:List Int}{a:List bK}(S:ST F A v D e g aU y B b a C t r z h G)(c:t.aS.length<=1000000):ap v z t.aS:=S.fW.aS.nX V
def ST.Rh{b:List Int}{a:List bK}(S:ST F A v D e g aU y B b a C t r z h G)(c:t.ba.length<=1000000):ap v h t.ba:=S.fW.ba.nX V
def uZ(S:ST F A v D bM (SB d p u aU y B) aU y B u.aU u.heap C t r z h G)(ha:ap F a x.args)(ah:∀b∈x.args,0<=b/\b<t.ak.length)(av:x.args.length<=4)(g:Int)
 (az:t.ak.length=t.aS.length/\t.ba.length=t.aS.length/\t.aS.length<=2000)(ai:0<=x.dst/\x.dst<t.aS.length)(ay:0<=x.cg/\x.cg<=t.ba.length)(aA:0<=t.pc/\t.pc<=100000)(ab:C.length<=100000)(aw:u.heap.length<=1000000000)
 (ak:∀w∈t.ba,w≠0->1000<=w/\ix w<u.heap.length):
 aO cp 108 [vp D 0,fv t r z h,xv x a j,vi g] v λ_ c=>yI F A v D d p (nL u C t x g) c:=by
 apply sD (D,0)
 simp -zeta only[aD,aC]
 intro w E
 have aq:J v E:=((J.aA v).aL _).aL _
 have s1:w.size=v.size+1:=by simp[w]
 have s2:E.size=v.size+2:=by simp[E,s1]
 have T:=zG.Kw S.cX.new s1 s2
 let⟨I,t2⟩:=S.ext aq
 clear_value E
 have ax:h.len=t.ba.length:=by have:=S.fW.ba.len;simp at this;omega
 have q:∀{A v t},ST F A v D bM (SB d p u aU y B) aU y B u.aU u.heap C t r z h G->af v D 7=some (O.v y):=λS=>S.cX.box.cq 7
 refine⟨y,q I,(GY (I.cX.heap.cells V)).mono ?_⟩
 rintro _ L ⟨rfl,ac⟩
 let⟨o,t3⟩:=I.ext ac
 have H:=T.to t3
 refine⟨t3.dL T,_,rfl,λaa c=>∃(b:Nat)(e:aY),aa=b/\ST F A c D bM (SB d p u aU y B) aU y B u.aU u.heap C e r z h G/\To A v A c/\zG A c [w.size,v.size]/\b<=u.heap.length/\
  e.ak=t.ak/\e.aS=t.aS/\e.pc=t.pc/\nL u C t x g={u with heap:=jv u.heap b ⟨1,g,cQ t x.args⟩,an:=C++[aY.put {e with pc:=t.pc+1} x.dst (1000+b) 1]},?_,?_⟩
 .have none:¬(x.cg≠0/\aF t.ba (x.cg -1)≠0)->∃(b:Nat)(e:aY),((dJ u.heap:Nat):Int)=b/\ST F A L D bM (SB d p u aU y B) aU y B u.aU u.heap C e r z h G/\To A v A L/\zG A L [w.size,v.size]/\b<=u.heap.length/\
   e.ak=t.ak/\e.aS=t.aS/\e.pc=t.pc/\nL u C t x g={u with heap:=jv u.heap b ⟨1,g,cQ t x.args⟩,an:=C++[aY.put {e with pc:=t.pc+1} x.dst (1000+b) 1]}:=λU=>
   ⟨_,t,rfl,o,t2.trans t3,H,qL _,rfl,rfl,rfl,by rw[nL,ae U]⟩
  refine⟨λK=>?_,λK=>none λP=>by simp at K;omega⟩
  simp at K
  have Q:cG (x.cg -1)=x.cg -1:=aR V V
  rw[Q]
  have k:0<=x.cg -1/\x.cg -1<t.ba.length:=V
  have N:=(o.Rh V).pO k.1 k.2
  refine⟨V,V,_,N,λm=>?_,λm=>none λP=>by simp at m;exact P.2 m⟩
  simp at m
  let⟨W,Y⟩:=ak _ (fq k.1 k.2) m
  refine⟨V,V,_,N,V,V,o.fW.ba.Om k.1 k.2,?_⟩
  intro M
  let⟨l,n⟩:=o.xG k.1 k.2 0
  have X:ix (aF t.ba (x.cg -1))=(aF t.ba (x.cg -1) -1000).toNat:=rfl
  have R:cG (aF t.ba (x.cg -1) -1000)=((ix (aF t.ba (x.cg -1)):Nat):Int):=by rw[aR V V];omega
  refine⟨n.dL H,ix (aF t.ba (x.cg -1)),_,R,l,(t2.trans t3).trans n,H.to n,V,rfl,rfl,rfl,?_⟩
  rw[nL,ao ⟨V,m⟩,jv,ae V,iv W]
 .rintro aa M ⟨b,e,rfl,l,n,U,ag,m,eo,ep,ec⟩
  have ar:J F M:=l.cX.cA
  have al:ap M r t.ak:=m▸l.Ax (by rw[m];omega)
  refine⟨y,q l,(sF (f:=t) al (ha.ext ar) ah V).mono ?_⟩
  rintro _ m5 ⟨ws,rfl,ow,ad⟩
  let⟨k,N⟩:=l.ext ad
  have W:=U.to N
  have am:(cQ t x.args).length<=1000000000:=by simp[cQ];omega
  have iw:ap m5 ws (cQ t x.args):=ap.gC ow V
  refine⟨N.dL U,ws,rfl,by rw[q k,q l],(Nu k.cX.heap k.cX.new ag g iw V am k.cX.cA.size).mono ?_⟩
  rintro _ m6 ⟨au,K,rfl,aj,c6⟩
  let⟨Z,P⟩:=k.gD c6 aj
  have X:=W.to P
  refine⟨P.dL W,K,rfl,Z.cX.mK (i:=7) aN,?_⟩
  intro m7
  let⟨S7,Q⟩:=Z.jF 7 [.s K]
  have Y:=X.to Q
  have e3:cG (1000+(b:Int))=1000+(b:Int):=aR V V
  have e4:cG (t.pc+1)=t.pc+1:=aR V V
  rw[e3,e4]
  refine⟨Q.dL X,(tY (a:={u with heap:=jv u.heap b ⟨1,g,cQ t x.args⟩}) S7 ab ai.1 (by rw[m];omega) (by rw[eo];omega) (1000+b)).mono ?_⟩
  rintro _ m8 ⟨S8,R⟩
  refine⟨R.dL Y,(kd (a:={u with heap:=jv u.heap b ⟨1,g,cQ t x.args⟩}) S8 ab (t.pc+1)).mono ?_⟩
  rintro _ m9 ⟨S9,t9⟩
  refine⟨t9.dL (Y.to R),au,aU,K,B,?_,((((n.trans N).trans P).trans Q).trans R).trans t9⟩
  rw[ec]
  have e5:gP (1000+(b:Int))=1:=by rw[gP,ao V]
  have:=S9.cX
  rw[e5]at this
  exact this
def sQ:∀(a aS:List Int)(r:Int),dw aS (a++[r])=gA (dw aS a) r (aF (dw aS a) r+1)
 |[],aS,r=>rfl
 |q::a,aS,r=>by rw[df,dw,sQ a,dw]
def FK{l:List Int}{i:Int}(h:∀z∈l,0<=z/\z<=b)(d:0<=b):0<=aF l i/\aF l i<=b:=by
 rcases aX i.toNat l.length with a|a
 .let⟨y,c⟩:=dG a;rw[HU c];exact h y (aq c)
 .rw[aF,fV,cT a];simp;omega
def rc:∀(c aS:List Int)(b:Int),0<=b->(∀z∈aS,0<=z/\z<=b)->∀z∈dw aS c,0<=z/\z<=b+c.length
 |[],aS,b,e,h,z,d=>by have:=h z d;simp;omega
 |r::c,aS,b,e,h,z,d=>by
  have:=rc c (gA aS r (aF aS r+1)) (b+1) V (λq a=>by
   have:=FK (i:=r) h e;rcases pU a with a|a
   .omega
   .have:=h q a;omega) z d
  simp only[be];omega
noncomputable def tJ (u:St) (C:List aY) (t:aY) (x:Instr):St:=
 open Classical in
 if(aM u.heap (aF t.ak (aF x.args 0))).aQ=1/\x.op=17 then
  {u with heap:=u.heap.set (ix (aF t.ak (aF x.args 0))) ⟨-1,0,dt (aM u.heap (aF t.ak (aF x.args 0))).aH.length⟩,an:=C++[{t with aS:=dw t.aS (x.args.drop 1),pc:=t.pc+1,ba:=gA t.ba (aF x.args 0) (aF t.ak (aF x.args 0))}]}
 else{u with heap:=apart u.heap (aF t.ak (aF x.args 0)),an:=C++[{t with aS:=dw t.aS (x.args.drop 1),pc:=t.pc+1}]}
def uj(b:Nat):mT [.i (0:Int)] b=(dt b).map Ce.i:=by
 induction b with
 |zero=>rfl
 |succ b a=>
  have:mT [.i (0:Int)] (b+1)=.i 0::mT [.i (0:Int)] b:=by simp[mT,qZ]
  rw[this,a];simp[dt,qZ]
def rB{v:E}(a:0<=b)(e:b<=1000000):aO cp 161 [vi b] v λd c=>d=O.v (.mk v.size 0 b.toNat b.toNat)/\c=v.push (.cells (bz ((dt b.toNat).map Ce.i)) aB):=by
 apply Jj;refine⟨a,de _,V,V,?_⟩;rw[uj];exact⟨rfl,rfl⟩
def On{v:E}(b:Nat):ig v (v.push (.cells (bz ((dt b).map Ce.i)) aB)) aB 1 (.mk v.size 0 b b) ((dt b).map Ce.i):=ig.new (J.aA v) aB 1 _ b (by simp[kH])
def I7(S:ST F A v D bM (SB d p u aU y B) aU y B u.aU u.heap C t r z h G)(ha:ap F a x.args)(an:∀g∈x.args,0<=g/\g<t.ak.length)(aJ:1<=x.args.length/\x.args.length<=4)(a1:x.op=16\/x.op=17)
 (aY:t.ak.length=t.aS.length/\t.ba.length=t.aS.length/\t.aS.length<=2000)(a2:0<=t.pc/\t.pc<=100000)(al:C.length<=100000)(aP:u.heap.length<=1000000000)(aH:∀Q∈t.aS,0<=Q/\Q<=999999)
 (ah:fQ u.heap (aF t.ak (aF x.args 0))){e:Nat->Int}(hI:fL u.heap e):
 aO cp 115 [vp D 0,fv t r z h,xv x a j] v λ_ c=>yI F A v D d p (tJ u C t x) c:=by
 apply td (D,0)
 simp -zeta only[aD,aC]
 intro m1 m2
 have aI:J v m2:=((J.aA v).aL _).aL _
 have s1:m1.size=v.size+1:=by simp[m1]
 have s2:m2.size=v.size+2:=by simp[m2,s1]
 have B2:=zG.Kw S.cX.new s1 s2
 let⟨S2,t2⟩:=S.ext aI
 clear_value m2
 have a4:r.len=t.ak.length:=by have:=S.fW.ak.len;simp at this;omega
 have a0:z.len=t.aS.length:=by have:=S.fW.aS.len;simp at this;omega
 have aQ:h.len=t.ba.length:=by have:=S.fW.ba.len;simp at this;omega
 have aK:=ha.len
 have H:0<=aF x.args 0/\aF x.args 0<t.ak.length:=an _ (fq V V)
 have ga:∀{c},J F c->∀{b:Nat}{g},x.args[b]? =some g->af c a.D (a.off+Int.toNat (b:Int)*1)=some (vi g):=λhx b g W=>by simpa using(ha.ext hx).aF W
 refine⟨V,V,aF x.args 0,(ha.ext S2.cX.cA).pO V V,H.1,V,aF t.ak (aF x.args 0),(S2.Ax V).pO H.1 H.2,?_⟩
 refine⟨λaj c=>∃b:Nat,aj=b/\1<=b/\b<=x.args.length/\ST F A c D bM (SB d p u aU y B) aU y B u.aU u.heap C {t with aS:=dw t.aS ((x.args.take b).drop 1)} r z h G/\To A v A c/\zG A c [m1.size,v.size],λaj _=>((x.args.length:Int) -aj).toNat,⟨1,rfl,V,V,?_,t2,B2⟩,?_⟩
 .have e1:(x.args.take 1).drop 1=[]:=aN
  rw[e1];exact S2
 rintro aj m3 ⟨b,rfl,aT,aW,I,t3,Y⟩
 have aG:∀Q∈dw t.aS ((x.args.take b).drop 1),0<=Q/\Q<=1000010:=λQ hq=>by
  have:=rc _ t.aS 999999 V aH Q hq;have h3:((x.args.take b).drop 1).length<=4:=bG;omega
 refine dit (λh1=>?_) λh1=>?_
 .let⟨g,W⟩:=cL x.args b
  have K:=an g (aq W)
  have M:g<(dw t.aS ((x.args.take b).drop 1)).length:=by rw[kA];omega
  have hb:=FK (i:=g) aG V
  refine⟨V,V,g,ga I.cX.cA W,V,V,g,ga I.cX.cA W,K.1,V,_,(I.JH (by simp only[kA];omega)).pO K.1 M,K.1,V,I.fW.aS.Om K.1 M,?_⟩
  intro q
  have N:cG (aF (dw t.aS ((x.args.take b).drop 1)) g+1)=aF (dw t.aS ((x.args.take b).drop 1)) g+1:=aR V V
  let⟨E,L⟩:=I.qd K.1 M (aF (dw t.aS ((x.args.take b).drop 1)) g+1)
  have P:q=ai m3 z.D (z.off+g.toNat*1) [.i (aF (dw t.aS ((x.args.take b).drop 1)) g+1)]:=by simp only[q,N]
  clear_value q
  subst P
  refine⟨L.dL Y,?_,?_⟩
  .rw[kQ (k:=b) (n:=x.args.length) V V]
   refine⟨b+1,rfl,V,V,?_,t3.trans L,Y.to L⟩
   have e4:(x.args.take (b+1)).drop 1=(x.args.take b).drop 1++[g]:=by
    rw[aV W,List.drop_append_of_le_length bG]
   rw[e4,sQ]
   exact E
  .rw[kQ (k:=b) (n:=x.args.length) V V]
   show((x.args.length:Int) -((b+1:Nat):Int)).toNat<((x.args.length:Int) -(b:Int)).toNat
   omega
 .have e1:(x.args.take b).drop 1=x.args.drop 1:=by rw[bZ V]
  rw[e1]at I
  have a5:=iv ah.1
  let⟨ak,a3⟩:=bP ah
  have ag:=aw ak
  have aZ:=I.cX.heap.len
  have e4:cG (t.pc+1)=t.pc+1:=aR V V
  have aX:=ah.1
  have aE:ix (aF t.ak (aF x.args 0))=(aF t.ak (aF x.args 0) -1000).toNat:=rfl
  have e5:cG (aF t.ak (aF x.args 0) -1000)=aF t.ak (aF x.args 0) -1000:=aR V V
  rw[e4,e5,<-aE]
  generalize hw:aF t.ak (aF x.args 0)=w at*
  have gw:∀{A v lh own' held'},ST F A v D bM (SB d p u aU y B) aU y B u.aU lh C {t with aS:=own',ba:=held'} r z h G->af v r.D (r.off+Int.toNat (aF x.args 0)*1)=some (vi w):=λS=>by rw[<-hw];exact(S.Ax (by simp only[];omega)).pO H.1 H.2
  refine⟨H.1,V,w,gw I,(BJ I.cX ah hI V).mono ?_⟩
  rintro _ q ⟨ax,rfl,hb,c4,aA,az⟩
  refine⟨(c4.mono λb N=>by omega:To A m3 A q).dL Y,ax,rfl,λau=>?_,λar=>?_⟩
  .have ac:=hb.1 au
   let⟨E,L⟩:=I.gD (c4.mono λb N=>Or.inl N) (aA au)
   have B4:=Y.to L
   have g7:af q D 7=some (O.v y):=E.cX.box.cq 7
   refine⟨λaa=>?_,λaa=>?_⟩
   .simp at aa
    let⟨f0,k0,k1,k2,kf,kr⟩:=E.cX.heap.cq ak
    have ay:=(hI.cell _ (aq ak)).fl
    have aL:=kf.len
    refine⟨y,g7,y,g7,V,V,f0,k2,(rB V V).mono ?_⟩
    rintro _ m5 ⟨rfl,rfl⟩
    have e6:Int.toNat (f0.len:Int)=(aM u.heap w).aH.length:=V
    rw[e6]
    have ab:J q (q.push (.cells (bz ((dt (aM u.heap w).aH.length).map Ce.i)) aB)):=J.push _ _
    have oz:=On (v:=q) (aM u.heap w).aH.length
    let⟨K,M⟩:=E.ext ab
    have Z:=B4.to M
    have av:A q.size=0:=E.cX.new _ (ad _)
    generalize q.push (.cells (bz ((dt (aM u.heap w).aH.length).map Ce.i)) aB)=m5 at*
    let⟨am,c6⟩:=K.cX.heap.setCell K.cX.new ag (-1) 0 (f:=.mk q.size 0 _ _) (ap.gC oz (by rw[kH];omega)) (RG.of E.cX.heap (λH=>ab.same _ (E.cX.heap.D H).2) (λ_=>oz) (λ_=>av) E.cX.cA.size)
    refine⟨M.dL B4,_,rfl,ab.dg g7,V,V,K.cX.heap.wr (o:=0) ag bn,?_⟩
    intro m6
    let⟨P,R⟩:=K.gD (c6.mono λb N=>Or.inl N) am
    have B6:=Z.to R
    refine⟨R.dL Z,H.1,V,w,gw P,H.1,V,P.fW.ba.Om H.1 (by simp only[];omega),?_⟩
    intro m7
    let⟨U,T⟩:=P.xG H.1 (by simp only[];omega) w
    refine⟨T.dL B6,(kd (a:={u with heap:=u.heap.set (ix w) ⟨-1,0,dt (aM u.heap w).aH.length⟩}) U al (t.pc+1)).mono ?_⟩
    rintro _ m8 ⟨S8,X⟩
    refine⟨X.dL (B6.to T),A,aU,y,B,?_,(((((t3.trans L).trans M).trans R).trans T).trans X)⟩
    rw[tJ,hw,ao ⟨ac,aa⟩]
    exact S8.cX
   .simp at aa
    refine⟨y,g7,?_⟩
    intro m5
    have ab:J q m5:=(J.aA q).aL _
    let⟨K,M⟩:=E.ext ab
    have Z:=B4.to M
    clear_value m5
    refine⟨V,V,K.cX.heap.wr (o:=0) ag bn,?_⟩
    intro m6
    let⟨am,c6⟩:=K.cX.heap.setCell K.cX.new ag 0 0 (f:=.mk q.size 0 0 0) (l:=[]) ⟨rfl,aN,aN,aN⟩ (λav=>absurd rfl av)
    let⟨P,R⟩:=K.gD (c6.mono λb N=>Or.inl N) am
    have B6:=Z.to R
    refine⟨R.dL Z,y,P.cX.box.cq 7,(ye (P.cX.heap.cells bG)).mono ?_⟩
    rintro _ m7 ⟨rfl,ay⟩
    let⟨U,T⟩:=P.ext ay
    have B7:=B6.to T
    refine⟨T.dL B6,_,rfl,U.cX.mK (i:=7) aN,?_⟩
    intro m8
    obtain⟨av,aL⟩:=U.gD (dx.aA _ U.cX.new) (U.cX.heap.cut (ue _ _))
    obtain⟨S8,X⟩:=av.jF 7 [.s (y.cut 0 (jy (u.heap.set (ix w) jd) (u.heap.set (ix w) jd).length) 3)]
    refine⟨X.dL B7,(kd (a:={u with heap:=mZ (u.heap.set (ix w) jd)}) S8 al (t.pc+1)).mono ?_⟩
    rintro _ m9 ⟨S9,t9⟩
    refine⟨t9.dL (B7.to X),A,aU,y.cut 0 (jy (u.heap.set (ix w) jd) (u.heap.set (ix w) jd).length) 3,B,?_,((((((t3.trans L).trans M).trans R).trans T).trans X).trans t9)⟩
    rw[tJ,hw,ae (λhh=>aa hh.2),Go.Proofs.YtghjegjkpepmpaaGreat.apart,ao ac]
    exact S9.cX
  .have ac:(aM u.heap w).aQ≠1:=λe=>by have:=hb.2 e;rw[ar]at this;simp at this
   let⟨E,L⟩:=I.gD (c4.mono λb N=>Or.inl N) (az ar)
   refine(kd (a:={u with heap:=iW (fu u.heap w) (lx (aM u.heap w).aH)}) E al (t.pc+1)).mono ?_
   rintro _ m5 ⟨K,M⟩
   refine⟨M.dL (Y.to L),A,aU,y,B,?_,(t3.trans L).trans M⟩
   rw[tJ,hw,ae (λhh=>ac hh.1),Go.Proofs.YtghjegjkpepmpaaGreat.apart,ae ac]
   exact K.cX
end
end
section
variable{e:cV}{c:Instr}{j:O}{l:List Int}{g b1 b2 b3 k:Nat}{b:E}
def iT(e:cV)(c:Instr):Nat->List Int->List Int
 |_,[]=>[]
 |k,w::j=>(if(c.op=9\/c.op=24)/\nM e c k=true then 0 else gP w)::iT e c (k+1) j
def DN(e:cV)(c:Instr):∀(l r:List Int)(k:Nat),iT e c k (l++r)=iT e c k l++iT e c (k+l.length) r
 |[],r,k=>by simp[iT]
 |b::l,r,k=>by
  have:=DN e c l r (k+1);simp only[df,iT,this,be];have a:k+(l.length+1)=k+1+l.length:=V;rw[a]
def Eu(e:cV)(c:Instr):∀(l:List Int)(k:Nat),(iT e c k l).length=l.length
 |[],k=>rfl
 |a::l,k=>by simp only[iT,be,Eu e c l]
def JG{e:cV}{c:Instr}(a:c.op=9\/c.op=24):∀(l:List Int)(k:Nat),iT e c k l=dP (dR e c.bS).cY k l
 |[],k=>rfl
 |d::l,k=>by
  simp only[iT,dP,JG a l];congr 1;unfold nM;by_cases h:((dR e c.bS).cY.any λy=>y==(k:Int))=true
  .rw[ao ⟨a,h⟩,ao h]
  .rw[ae (λb=>h b.2),ae h]
def Gw{e:cV}{c:Instr}(a:¬(c.op=9\/c.op=24)):∀(l:List Int)(k:Nat),iT e c k l=dP [] k l
 |[],k=>rfl
 |d::l,k=>by
  simp only[iT,dP,Gw a l,QI,jz,rY];rw[ae (λb=>a b.1)]
def Fc{m:E}{p:Nat}{r A:O}(aa:fC m r A e)(T:af m p 0=some (O.v r))(g1:af m p 1=some (O.v A))(Z:zH e c)(D P:O)(K:ap m j l)(ac:l.length<=1000000):
 oN 160 [vp p 0,xv c D P,O.v j] m (iT e c 0 l):=by
 apply rV (p,0)
 simp -zeta only[aD,aC]
 intro a y
 have w:J m a:=(J.aA m).aL _
 have W:J a y:=(J.aA a).aL _
 have ho:ig a y aB 1 (.mk a.size 0 0 0) []:=ig.new (J.aA a) aB 1 [] 0 aN
 have f:∀q∈[m.size],q<a.size:=by simp[a]
 have ad:=K.len
 clear_value y
 clear_value a
 refine eB (n:=l.length) V (λk B b=>J a b/\ig a b aB 1 B ((iT e c 0 (l.take k)).map Ce.i)) ⟨W,by simpa[iT]using ho⟩ ?_
 rintro k B m3 ab μ hk ⟨L,g⟩ z
 have M:=w.trans L
 refine dit (λU=>?_) λU=>?_
 .let⟨C,N⟩:=cL l k
  have I:(l.take k).length=k:=bG
  have v:iT e c 0 (l.take (k+1))=iT e c 0 (l.take k)++[if(c.op=9\/c.op=24)/\nM e c k=true then 0 else gP C]:=by
   rw[aV N,DN,I];simp[iT]
  have u:(iT e c 0 (l.take k)).length<1000000000:=by rw[Eu,I];omega
  refine⟨V,V,C,by simpa using M.af (K.aF N),(dY _ _).aJ L f λq m4 G s i=>⟨q,rfl,λY=>?_,λX=>?_⟩⟩
  .have x:=w.trans i
   refine⟨r,x.af T,A,x.af g1,(sC (aa.ext x) Z D P k).aJ i f λb2 m5 H F o=>⟨b2,rfl,λt=>?_,λt=>?_⟩⟩
   .intro Q
    refine om ((g.ext s).ext F) o u λS R h d=>⟨J.tQ (o.aL _) d f,z V _ _ ⟨d,?_⟩⟩
    rw[v,ae (nb H t),gP,ao (G.1 Y)];exact h
   .intro Q
    refine om ((g.ext s).ext F) o u λS R h d=>⟨J.tQ (o.aL _) d f,z V _ _ ⟨d,?_⟩⟩
    rw[v,ao (yb H t)];exact h
  .intro Q
   refine om (g.ext s) i u λS R h d=>⟨J.tQ (i.aL _) d f,z V _ _ ⟨d,?_⟩⟩
   rw[v]
   have o:(if(c.op=9\/c.op=24)/\nM e c k=true then 0 else gP C)=0:=by
    rw[gP,ae (fb G X)];split<;>rfl
   rw[o];exact h
 .rw[bZ V]at g
  exact⟨B,rfl,g.cA w.size,M⟩
structure rC(m b:E)(b1 b2 b3 g:Nat)(ak aS ba:List Int):Prop where
 ext:J m b
 lo:m.size<=b1/\m.size<=b2/\m.size<=b3/\b1≠b2/\b1≠b3/\b2≠b3/\b1<b.size/\b2<b.size/\b3<b.size
 kr:cK b b1 aB (ak.map Ce.i)
 ko:cK b b2 aB (aS.map Ce.i)
 kh:cK b b3 aB (ba.map Ce.i)
 len:ak.length=g/\aS.length=g/\ba.length=g
def Li{a:E}{b:Nat}(d:cK a b aB ((dt g).map Ce.i))(f:l.length<=g):cK (ai a b 0 (l.map Ce.i)) b aB ((l++dt (g -l.length)).map Ce.i):=by
 have:=cK.ai (m:=a) (o:=0) (r:=l.map Ce.i) d;have e:jt ((dt g).map Ce.i) 0 (l.map Ce.i)=(l++dt (g -l.length)).map Ce.i:=by
  have c:=Cs [] (l.map Ce.i) ((dt g).map Ce.i) (by simp[kH];omega);simp only[eH,eY]at c;rw[c];simp[dt,List.drop_replicate]
 rw[e]at this;exact this
def yB{m:E}{H R:O}(K:fC m H R e){r:Int}(S:0<=r){q:dC}(M:e.cE[r.toNat]? =some q)(C:0<=q.ak/\q.ak<=2000)(I:Int){G:O}{d h:List Int}(N:ap m j d)(L:ap m G h)(ag:(d.length:Int)<=q.ak)(ae:h.length=d.length):
 aO cp 129 [.agg #[O.v H,O.v R],vi r,vi I,O.v j,O.v G] m λab b=>∃b1 b2 b3,ab=.agg #[vi r,vi 0,vi I,O.v (.mk b1 0 q.ak.toNat q.ak.toNat),O.v (.mk b2 0 q.ak.toNat q.ak.toNat),O.v (.mk b3 0 q.ak.toNat q.ak.toNat)]/\
  rC m b b1 b2 b3 q.ak.toNat (d++dt (q.ak.toNat -d.length)) (h++dt (q.ak.toNat -h.length)) (dt q.ak.toNat):=by
 apply ER
 simp -zeta only[aD,aC]
 intro x a
 have w:J m a:=((J.aA m).aL _).aL _
 have s1:x.size=m.size+1:=by simp[x]
 have s2:a.size=m.size+2:=by simp[a,s1]
 have k:∀g∈[x.size,m.size],g<a.size:=bG
 have af:=K.cE.len
 have ac:=aw M
 have X:=N.len
 have W:=L.len
 clear_value a
 obtain⟨a',l',c',_,_,_,_,_,_,k3,_⟩:=(K.ext w).cE.aF M
 refine⟨S,V,q.ak,k3,(rB C.1 V).mono ?_⟩
 rintro _ c ⟨rfl,n⟩
 have z:J a c:=by rw[n];exact J.push _ _
 have s3:c.size=a.size+1:=by rw[n];simp
 have P:cK c a.size aB ((dt q.ak.toNat).map Ce.i):=by rw[n];exact cK.push _ _ _
 clear n
 refine⟨z.dz k,_,rfl,(rB C.1 V).mono ?_⟩
 rintro _ y ⟨rfl,o⟩
 have u:J c y:=by rw[o];exact J.push _ _
 have s4:y.size=c.size+1:=by rw[o];simp
 have Z:cK y c.size aB ((dt q.ak.toNat).map Ce.i):=by rw[o];exact cK.push _ _ _
 clear o
 have A:=z.trans u
 have T:min j.len q.ak.toNat=d.length:=by rw[X];exact ju V
 have U:min G.len q.ak.toNat=h.length:=by rw[W];exact ju V
 refine⟨u.dz (λg B=>z.lt (k g B)),_,rfl,d.map Ce.i,by simp only[O.gL];rw[T];simp,(N.ext (w.trans A)).Iv,(P.ext u).fO (by simp[kH];omega),?_⟩
 intro i
 have k5:cK i a.size aB ((d++dt (q.ak.toNat -d.length)).map Ce.i):=Li (P.ext u) V
 have Q:cK i c.size aB ((dt q.ak.toNat).map Ce.i):=Z.congr (bg _ _ _ _ (show c.size≠a.size by omega))
 have s:J a i:=A.ai (ad _) _ _
 have s5:i.size=y.size:=ax _ _ _ _
 clear_value i
 refine⟨J.tQ A s k,h.map Ce.i,by simp only[O.gL];rw[U];simp,(L.ext (w.trans s)).Iv,Q.fO (by simp[kH];omega),?_⟩
 intro f
 have k6:cK f c.size aB ((h++dt (q.ak.toNat -h.length)).map Ce.i):=Li Q V
 have aa:cK f a.size aB ((d++dt (q.ak.toNat -d.length)).map Ce.i):=k5.congr (bg _ _ _ _ (show a.size≠c.size by omega))
 have t:J a f:=s.ai (show a.size<=c.size by omega) _ _
 have s6:f.size=i.size:=ax _ _ _ _
 clear_value f
 refine⟨J.tQ s t k,(rB C.1 V).mono ?_⟩
 rintro _ l ⟨rfl,p⟩
 have v:J f l:=by rw[p];exact J.push _ _
 have s7:l.size=f.size+1:=by rw[p];simp
 have k7:cK l f.size aB ((dt q.ak.toNat).map Ce.i):=by rw[p];exact cK.push _ _ _
 clear p
 refine⟨J.tQ t (t.trans v) k,_,rfl,?_⟩
 intro D
 have Y:J m D:=(w.trans (t.trans v)).ai V _ _
 have s8:D.size=l.size:=ax _ _ _ _
 have F:∀g,g≠x.size->D[g]? =l[g]? :=λg B=>bg _ _ _ _ B
 refine⟨a.size,c.size,f.size,rfl,Y,V,(aa.ext v).congr (F _ V),(k6.ext v).congr (F _ V),k7.congr (F _ V),by simp[kH];omega⟩
def pZ(a:Nat->Nat)(b1 b2 b3 g:Nat):Nat->Nat:=oJ (oJ (oJ a b1 (10+3*g)) b2 (11+3*g)) b3 (12+3*g)
def rC.eJ{p:Nat->Prop}{d:Nat->Nat}{m:E}{ak aS ba:List Int}(N:rC m b b1 b2 b3 k ak aS ba)(e:∀a,m.size<=a->d a=0):dx p d m (pZ d b1 b2 b3 g) b:=by
 have f:=N.lo;refine⟨N.ext.size,λa c=>?_,λa c=>?_,λa c _=>N.ext.same a c⟩
 .unfold pZ;rw[eX V,eX V,eX V]
 .unfold pZ;rw[eX V,eX V,eX V];exact e a (oh N.ext.size)
def rC.qD{a:Nat->Nat}{m:E}{ak aS ba:List Int}(N:rC m b b1 b2 b3 k ak aS ba):
 iR (pZ a b1 b2 b3 g) b aB 1 (10+3*g) (.mk b1 0 k k) (ak.map Ce.i)/\iR (pZ a b1 b2 b3 g) b aB 1 (11+3*g) (.mk b2 0 k k) (aS.map Ce.i)/\iR (pZ a b1 b2 b3 g) b aB 1 (12+3*g) (.mk b3 0 k k) (ba.map Ce.i):=by
 have f:=N.lo
 let⟨c,d,e⟩:=N.len
 refine⟨⟨by simp[c],aN,Or.inr ⟨b1,k,[],rfl,?_,by rw[eg];exact N.kr,by simp[c]⟩⟩,⟨by simp[d],aN,Or.inr ⟨b2,k,[],rfl,?_,by rw[eg];exact N.ko,by simp[d]⟩⟩,⟨by simp[e],aN,Or.inr ⟨b3,k,[],rfl,?_,by rw[eg];exact N.kh,by simp[e]⟩⟩⟩
 .unfold pZ;rw[eX V,eX V,fK]
 .unfold pZ;rw[eX V,fK]
 .unfold pZ;rw[fK]
def rC.box{m:E}{ak aS ba:List Int}(N:rC m b b1 b2 b3 k ak aS ba){m1:E}(a:J m1 m){nb:Nat}(d:m1.size<=nb)(e:nb<m.size)(i:Nat)(c:List Ce):rC m1 (ai b nb i c) b1 b2 b3 k ak aS ba:=by
 have f:=N.lo;have g:=a.size;exact⟨(a.trans N.ext).ai d _ _,by rw[ax];omega,N.kr.congr (bg _ _ _ _ V),N.ko.congr (bg _ _ _ _ V),N.kh.congr (bg _ _ _ _ V),N.len⟩
def rC.SK{m c:E}{ak aS ba:List Int}(N:rC m b b1 b2 b3 k ak aS ba)(a:J b c):rC m c b1 b2 b3 k ak aS ba:=by
 have d:=N.lo;have:=a.size;exact⟨N.ext.trans a,V,N.kr.ext a,N.ko.ext a,N.kh.ext a,N.len⟩
section
variable{B:E}{v:Nat->Nat}{m:E}{w:Nat}{d p aU z t:O}{s:St}{q:List aY}{u:aY}{D C A:O}{y:List (List Ce)}
def tv.replace{c:Nat->Nat}(T:tv v m t q u D C A y)(s:dx (λ_=>False) v m c b){a:aY}{g e d:O}(w:iR c b aB 1 (10+3*q.length) g (a.ak.map Ce.i))(n:iR c b aB 1 (11+3*q.length) e (a.aS.map Ce.i))(p:iR c b aB 1 (12+3*q.length) d (a.ba.map Ce.i)):
 fO b t.D (t.off+q.length*6) 6/\nU c (ai b t.D (t.off+q.length*6) [.i a.fw,.i a.pc,.i a.dst,.s g,.s e,.s d]) t (q++[a])/\dx (λk=>k=4) c b c (ai b t.D (t.off+q.length*6) [.i a.fw,.i a.pc,.i a.dst,.s g,.s e,.s d]):=by
 have j:tv c b t q u D C A y:=T.eJ s λ_ _=>id
 have l:y.flatten.length=q.length*6:=by rw[cy T.size,T.len]
 have i:dx (λk=>k=4) c b c (ai b t.D (t.off+q.length*6) [.i a.fw,.i a.pc,.i a.dst,.s g,.s e,.s d]):=dx.ai s.new j.D.1 _ _
 refine⟨j.qD.wr (by simp[l]),tv.tq (f:=a) (a:=q) (j:=y) (r:=g) (e:=e) (h:=d) ⟨?_,T.len,T.size,j.yv i λk n p=>V,w.eJ i V,n.eJ i V,p.eJ i V⟩,i⟩
 have:=j.qD.set (o:=q.length*6) (new:=[.i a.fw,.i a.pc,.i a.dst,.s g,.s e,.s d]) (by simp[l])
 rw[lR _ _ _ _ V,l,QL]at this
 exact this
def NE(w nb:Nat)(d:List Nat)(k n f:Int)(g g1 g2:Int)(l j h:O)(e:E)(R:Value->E->Prop):Prop:=
 ((k==(24:Int))=true->
 let b:E:=ai e nb 2 [.i f]
 ∃a:O,af b w 8=some (O.v a)/\
 ∃c:O,af b w 8=some (O.v c)/\
 (0:Int)<=(cG ((c.len:Int) -(1:Int)))/\(cG ((c.len:Int) -(1:Int)))<(a.len:Int)/\
 fO b a.D (a.off+Int.toNat (cG ((c.len:Int) -(1:Int)))*6) 6/\
 let i:E:=ai b a.D (a.off+Int.toNat (cG ((c.len:Int) -(1:Int)))*6) [.i g,.i g1,.i f,.s l,.s j,.s h]
 eF (nb::d) b i/\
 R (.tuple #[]) i)/\
 ((k==(24:Int))=false->
 aO cp 113 [vp w 0,vi (cG (n+(1:Int)))] e λ_ a=>
 eF (nb::d) e a/\
 ∃m:O,af a w 8=some (O.v m)/\
 let c:E:=a.push (.cells (bz [.i g,.i g1,.i g2,.s l,.s j,.s h]) dS)
 af c w 8=af a w 8/\
 jT c dS [.i (0:Int),.i (0:Int),.i (0:Int),.s O.nil,.s O.nil,.s O.nil] 96 m (O.mk a.size 0 1 1) λo b=>
 eF (nb::d) c b/\
 fO b w 8 1/\
 let i:E:=ai b w 8 [.s o]
 eF (nb::d) b i/\
 R (.tuple #[]) i)
def OO(S:ST B v m w bM (SB d p s aU z t) aU z t s.aU s.heap q u D C A y){W:List Nat}(G:zG v m W){nb:Nat}{h:E}{g:aY}(N:rC m h b1 b2 b3 k g.ak g.aS g.ba)(ah:m.size<=nb/\nb<h.size)(r:nb≠b1/\nb≠b2/\nb≠b3)
 (az:q.length<=100000)(aD:0<=u.pc/\u.pc<=100000){R:Value->E->Prop}
 (ar:c.op=24->∀b,yI B v m w d p {s with an:=q++[{g with dst:=u.dst}]} b->R (.tuple #[]) b)
 (au:c.op≠24->∀b,yI B v m w d p {s with an:=q++[{u with pc:=u.pc+1},g]} b->R (.tuple #[]) b):
 NE w nb W c.op u.pc u.dst g.fw g.pc g.dst (.mk b1 0 k k) (.mk b2 0 k k) (.mk b3 0 k k) h R:=by
 have aA:=N.lo
 have ay:=S.fW.yo
 have F:cG ((t.len:Int) -1)=(q.length:Int):=by rw[aR V V];omega
 have e2:Int.toNat (q.length:Int)=q.length:=V
 have e4:cG (u.pc+1)=u.pc+1:=aR V V
 have ai:v nb=0:=S.cX.new _ ah.1
 have aC:=N.ext.size
 refine⟨λM=>?_,λM=>?_⟩
 .intro H
  have P:rC m H b1 b2 b3 k g.ak g.aS g.ba:=⟨N.ext.ai ah.1 _ _,by simp only[H,ax];omega,N.kr.congr (bg _ _ _ _ (λF=>r.1 F.symm)),N.ko.congr (bg _ _ _ _ (λF=>r.2.1 F.symm)),N.kh.congr (bg _ _ _ _ (λF=>r.2.2 F.symm)),N.len⟩
  have ab:H.size=h.size:=ax _ _ _ _
  clear_value H
  have o:dx (λ_=>False) v m (pZ v b1 b2 b3 q.length) H:=P.eJ S.cX.new
  let⟨U,a2,a3⟩:=P.qD (a:=v) (g:=q.length)
  let⟨Z,w2,I⟩:=S.fW.replace o (a:={g with dst:=u.dst}) U a2 a3
  let⟨L,X⟩:=S.cX.gD (o.mono λ_=>False.elim) (S.cX.heap.eJ o id id)
  have K:af H w 8=some (O.v t):=L.box.cq 8
  refine⟨t,K,t,K,?_⟩
  rw[F,e2]
  refine⟨V,V,Z,?_⟩
  intro aa
  let⟨T,Y⟩:=L.jR (I.mono λk Q=>V) w2
  refine⟨?_,ar (by simpa using M) _ ⟨_,aU,z,t,T,X.trans Y⟩⟩
  intro j e
  rcases List.mem_cons.1 e with rfl|e
  .refine I.eC _ V ?_
   unfold pZ;rw[eX r.2.2,eX r.2.1,eX r.1,ai];decide
  .refine I.eC _ (oh ((G j e).1)) ?_
   rw[o.gY j (G j e).1,(G j e).2];decide
 .simp only[aj]at M
  rw[e4]
  have o:dx (λ_=>False) v m (pZ v b1 b2 b3 (q.length+1)) h:=N.eJ S.cX.new
  let⟨U,a2,a3⟩:=N.qD (a:=v) (g:=q.length+1)
  let⟨ap,aw⟩:=S.cX.gD (o.mono λ_=>False.elim) (S.cX.heap.eJ o id id)
  have I:ST B (pZ v b1 b2 b3 (q.length+1)) h w bM (SB d p s aU z t) aU z t s.aU s.heap q u D C A y:=⟨ap,S.fW.eJ o λ_ _=>id⟩
  have ag:zG (pZ v b1 b2 b3 (q.length+1)) h (nb::W):=λj e=>by
   rcases List.mem_cons.1 e with rfl|e
   .refine⟨V,?_⟩;unfold pZ;rw[eX r.2.2,eX r.2.1,eX r.1,ai]
   .exact⟨by have:=(G j e).1;omega,by rw[o.gY j (G j e).1];exact(G j e).2⟩
  apply px (w,0)
  have K:af h w 8=some (O.v t):=I.cX.box.cq 8
  refine⟨t,K,t,K,?_⟩
  rw[F,e2]
  refine⟨V,V,I.fW.VF,?_⟩
  intro H
  let⟨L,aa⟩:=I.Oi (u.pc+1)
  have aq:dx (λk=>k=4) (pZ v b1 b2 b3 (q.length+1)) h (pZ v b1 b2 b3 (q.length+1)) H:=dx.ai I.cX.new I.fW.D.1 _ _
  refine⟨aa.dL ag,t,L.cX.box.cq 8,?_⟩
  intro Z
  have Y:J H Z:=(J.aA H).aL _
  let⟨T,am⟩:=L.ext Y
  have ac:=(ag.to aa).to am
  have jD:fS Z H.size 0 [.i g.fw,.i g.pc,.i g.dst,.s (.mk b1 0 k k),.s (.mk b2 0 k k),.s (.mk b3 0 k k)]:=(cK.push H _ _).iL
  have P:(q++[{u with pc:=u.pc+1}]).length=q.length+1:=aN
  have X:=λ{k:Nat}{s:O}{l:List Ce}(a:iR (pZ v b1 b2 b3 (q.length+1)) h aB 1 k s l)(Q:k≠4)=>(a.eJ aq Q).eJ (dx.eI (λ_=>False) Y L.cX.new) id
  refine⟨Y.dg (L.cX.box.cq 8),nU.push T.cX.an T.cX.new (x:=.mk H.size 0 1 1) rfl (a:=g) jD (by rw[P];exact X U V) (by rw[P];exact X a2 V) (by rw[P];exact X a3 V) (by rw[P];omega) λal ak av q1 q2=>?_⟩
  have ab:To _ Z al av:=q2.mono λk Q=>V
  let⟨ad,aF⟩:=T.cX.jR (q2.mono λk Q=>V) q1
  refine⟨ab.dL ac,ad.mK (i:=8) aN,?_⟩
  intro aE
  let⟨ae,ao⟩:=ad.jF 8 [.s ak]
  refine⟨ao.dL (ac.to ab),au M _ ⟨al,aU,z,ak,?_,(((aw.trans aa).trans am).trans ab).trans ao⟩⟩
  have e9:q++[{u with pc:=u.pc+1}]++[g]=q++[{u with pc:=u.pc+1},g]:=aN
  rw[e9]at ae
  exact ae
end
end
section
variable{a:cV}
noncomputable def rh (a:cV) (s:St) (b:List aY) (f:aY) (x:Instr):St:=
 if x.op=9 then{s with bA:=s.bA+1,an:=b++[{f with pc:=f.pc+1},bY a x.bS x.dst (cQ f x.args)]}
 else if x.op=24 then{s with bA:=s.bA+1,an:=b++[bY a x.bS f.dst (cQ f x.args)]}
 else{s with bA:=s.bA+1,heap:=apart s.heap (aF f.ak (aF x.args 0)),an:=b++[{f with pc:=f.pc+1},bY a ((aM s.heap (aF f.ak (aF x.args 0))).kE -cv a) x.dst ((aM s.heap (aF f.ak (aF x.args 0))).aH++[aF f.ak (aF x.args 1)])]}
section
variable{u:E}{n:Nat->Nat}{m:E}{q:Nat}{d p aU t j:O}{b:St}{e:List aY}{c:aY}{r v h:O}{y:List (List Ce)}
def ST.rv(S:ST u n m q bM (SB d p b aU t j) aU t j b.aU b.heap e c r v h y)(g:fC u d p a)(k:b.aU.length<=2000000000)(i:b.heap.length<=2000000000)(f:iK m j (e++[c])):
 RV m q 2 d p aU t j a {b with an:=e++[c]}:=
 ⟨g.ext S.cX.cA,S.cX.box.cq 0,S.cX.box.cq 1,S.cX.box.cq 2,S.cX.box.cq 3,S.cX.box.cq 4,S.cX.box.cq 5,S.cX.box.cq 6,S.cX.box.cq 7,S.cX.box.cq 8,S.cX.aU.nX V,S.cX.heap.cells V,f⟩
def nU.Ey{e:List aY}(b:nU n m j e)(A:e.length<=2000000000)(q:∀c∈e,c.ak.length<=1000000/\c.aS.length<=1000000/\c.ba.length<=1000000):iK m j e:=by
 let⟨y,a,f,g,p⟩:=b;have t:j.len=e.length:=by have:=a.len;rw[cy g,f]at this;omega
 refine⟨t,a.le,V,λk x d=>?_⟩;let⟨o,i⟩:=cL y k (by rw[f];exact aw d);obtain⟨r,v,h,rfl,w,u,b⟩:=p k o x i d;let⟨B,C,D⟩:=q x (aq d);refine⟨_,⟨r,v,h,rfl,w.nX V,u.nX V,b.nX V⟩,λz l s=>?_⟩;have:=a.iL (k*6+z) l (fY g i s);rwa[<-dq]at this
def Np(al:ST u n m q bM (SB d p b aU t j) aU t j b.aU b.heap e c r v h y)(aP:fC u d p a)(aE:nF a){z:Instr}{aa ah:O}(ha:ap u aa z.args)(bm:∀D∈z.args,0<=D/\D<c.ak.length)(bO:z.args.length<=4)
 (b0:z.op=9\/z.op=24\/z.op=11)(a4:(z.op=9\/z.op=24)->vU a z.bS z.args.length)(bl:z.op=11->z.args.length=2/\vT a b.heap (aF c.ak (aF z.args 0)))
 (bX:c.ak.length=c.aS.length/\c.ba.length=c.aS.length/\c.aS.length<=2000)(bk:∀K∈e,K.ak.length<=1000000/\K.aS.length<=1000000/\K.ba.length<=1000000)(bB:0<=c.pc/\c.pc<=100000)(bU:e.length<=10000)(bV:b.heap.length<=1000000000)(b4:b.aU.length<=1000000000)(bQ:0<=b.bA/\b.bA<=100000)
 {C:Nat->Int}(hI:fL b.heap C):
 aO cp 110 [vp q 0,fv c r v h,xv z aa ah] m λ_ M=>yI u n m q d p (rh a b e c z) M:=by
 apply vG (q,0)
 simp -zeta only[aD,aC]
 intro G m2
 have bE:J m m2:=((J.aA m).aL _).aL _
 have s1:G.size=m.size+1:=by simp[G]
 have s2:m2.size=m.size+2:=by simp[m2,s1]
 have B2:=zG.Kw al.cX.new s1 s2
 have kB:cK m2 G.size dZ [.i z.op,.i z.dst,.i z.bS,.i z.cg,.s aa,.s ah]:=cK.push G _ _
 let⟨S2,t2⟩:=al.ext bE
 clear_value m2
 have br:zH a z:=λC=>let⟨A,Y,F,_⟩:=a4 C;⟨Y,A,F⟩
 have bN:(eU a.br).length<=12:=by
  have:=rE aE.ov.types a.br.length;rw[nk _ _ (ad _)]at this;exact this
 have bu:∀{n m t lh bx},ST u n m q bM bx aU t j b.aU lh e c r v h y->iK m j (e++[c]):=λal=>al.cX.an.Ey bG (λK B=>by
  rcases List.mem_append.1 B with B|B
  .exact bk K B
  .simp at B;subst B;omega)
 refine(sF (f:=c) (S2.Ax V) (ha.ext S2.cX.cA) bm V).mono ?_
 rintro _ m3 ⟨T,rfl,ow,aA⟩
 let⟨S3,t3⟩:=S2.ext aA
 have B3:=B2.to t3
 have bD:(cQ c z.args).length=z.args.length:=by simp[cQ]
 have ar:ap m3 T (cQ c z.args):=ap.gC ow V
 have bJ:∀{M:E}{T:O}{av:List Ce},ig M m3 aB 1 T av->m.size<=M.size->T≠.nil->n T.D=0:=λho hs Z=>by
  rcases ho.D with C|C
  .exact absurd C Z
  .exact al.cX.new _ V
 refine⟨t3.dL B2,T,rfl,λK wv M=>∃(aI:Nat->Nat)(a8:O)(ak:List bK)(B:List Int)(A:dC),ST u aI M q bM (SB d p b aU a8 j) aU a8 j b.aU ak e c r v h y/\To n m aI M/\zG aI M [G.size,m.size]/\cK M G.size dZ [.i z.op,.i z.dst,.i z.bS,.i z.cg,.s aa,.s ah]/\ap M wv B/\(B≠[]->aI wv.D=0)/\
  0<=K/\a.cE[K.toNat]? =some A/\B.length=A.params.length/\iT a z 0 B=dP A.cY 0 B/\
  (z.op=24->rh a b e c z={b with bA:=b.bA+1,heap:=ak,an:=e++[bY a K c.dst B]})/\(z.op≠24->rh a b e c z={b with bA:=b.bA+1,heap:=ak,an:=e++[{c with pc:=c.pc+1},bY a K z.dst B]}),?_,?_⟩
 .refine⟨λai=>?_,λai=>?_⟩
  .simp at ai
   let⟨F,U,a9,b5,bz,a6,bS⟩:=bl ai
   let⟨au,bC⟩:=bP U
   have a0:=hI.cell _ (aq au)
   have b6:=(a0.ph bC).2
   have a7:=aw au
   have bo:z.args=[aF z.args 0,aF z.args 1]:=by
    cases L:z.args with
    |nil=>rw[L]at F;simp at F
    |cons D av=>cases av with
     |nil=>rw[L]at F;simp at F
     |cons H av=>cases av with
      |nil=>rfl
      |cons _ _=>rw[L]at F;simp at F
   have a_:cQ c z.args=[aF c.ak (aF z.args 0),aF c.ak (aF z.args 1)]:=by rw[bo];rfl
   have b8:=ar.len
   have b7:=ar.cap
   have gw:af m3 T.D (T.off+Int.toNat (0:Int)*1)=some (vi (aF c.ak (aF z.args 0))):=ar.aF (k:=0) (by rw[a_];rfl)
   have am:=S3.rv aP V V (bu S3)
   generalize hw:aF c.ak (aF z.args 0)=w at*
   generalize hv:aF c.ak (aF z.args 1)=ag at*
   let⟨A,hq⟩:=cL a.cE (((aM b.heap w).kE -cv a).toNat)
   have aj:dR a ((aM b.heap w).kE -cv a)=A:=by simp[dR,hq]
   rw[aj]at bz a6
   refine⟨V,V,w,gw,d,am.br,(fU am U.1 au).mono ?_⟩
   rintro _ m4 ⟨f4,rfl,bR,W⟩
   let⟨S4,t4⟩:=S3.ext W
   have B4:=B3.to t4
   have a1:=am.ext W
   refine⟨t4.dL B3,_,_,_,rfl,W.dg am.br,(qS a1.fm.br aE.ov.types).mono ?_⟩
   rintro _ H ⟨rfl,aJ⟩
   let⟨P,t5⟩:=S4.ext aJ
   have B5:=B4.to t5
   have bj:=a1.ext aJ
   refine⟨t5.dL B4,_,rfl,V,V,V,(fU bj U.1 au).mono ?_⟩
   rintro _ m6 ⟨f6,rfl,bt,aY⟩
   let⟨S6,t6⟩:=P.ext aY
   have B6:=B5.to t6
   have aH:=(W.trans aJ).trans aY
   have e1:(Int.toNat (1:Int))=1:=rfl
   have e2:(Int.toNat (T.len:Int))=T.len:=V
   rw[e1,e2]
   have bF:ap m6 (O.cut T 1 T.len 1) [ag]:=by
    have:=Vl (ar.ext aH) (by rw[bD];omega);rw[a_]at this;exact this
   have bT:=a0.fl
   refine⟨t6.dL B5,_,_,_,rfl,(Ml bt bF bG).mono ?_⟩
   rintro _ m7 ⟨N,rfl,oe,aZ⟩
   let⟨S7,t7⟩:=S6.ext aZ
   have B7:=B6.to t7
   have ie:ap m7 N ((aM b.heap w).aH++[ag]):=ap.gC oe bG
   have ay:n N.D=0:=by
    rcases oe.D with C|C
    .subst C;have:=ie.len;simp at this
    .exact al.cX.new _ (O6 aH.size aA.size)
   have bs:N.D<m7.size:=iQ ie aN
   refine⟨t7.dL B6,N,rfl,(BJ S7.cX U hI V).mono ?_⟩
   rintro _ D ⟨ab,rfl,hb,I,bq,bp⟩
   have t8:To n m7 n D:=I.mono λR Q=>V
   have B8:=B7.to t8
   have ba:ap D N ((aM b.heap w).aH++[ag]):=jb ie λ_=>I.eC _ bs (by rw[ay];decide)
   have bc:To n m n D:=(((((t2.trans t3).trans t4).trans t5).trans t6).trans t7).trans t8
   have bb:cK D G.size dZ [.i z.op,.i z.dst,.i z.bS,.i z.cg,.s aa,.s ah]:=(kB.ext (aA.trans (aH.trans aZ))).congr (I.eC _ (B7 G.size aN).1 (by rw[(B7 G.size aN).2];decide))
   have e3:cG ((aM b.heap w).kE -((eU a.br).length:Int))=(aM b.heap w).kE -cv a:=aR V V
   rw[e3]
   have aG:iT a z 0 ((aM b.heap w).aH++[ag])=dP A.cY 0 ((aM b.heap w).aH++[ag]):=by
    rw[Gw V,List.length_eq_zero_iff.1 a6]
   have a5:∀ak,ak=apart b.heap w->rh a b e c z={b with bA:=b.bA+1,heap:=ak,an:=e++[{c with pc:=c.pc+1},bY a ((aM b.heap w).kE -cv a) z.dst ((aM b.heap w).aH++[ag])]}:=λak C=>by
    rw[rh,ae V,ae V,hw,hv,C]
   refine⟨t8.dL B7,ab,rfl,λa3=>?_,λa2=>?_⟩
   .have aK:=hb.1 a3
    let⟨S,bL⟩:=S7.gD (I.mono λR Q=>Or.inl Q) (bq a3)
    have bZ:=S.cX.heap.len
    refine⟨t,S.cX.box.cq 7,?_⟩
    intro m9
    have bi:J D m9:=(J.aA D).aL _
    let⟨S9,X⟩:=S.ext bi
    have B9:=B8.to X
    clear_value m9
    have bW:=U.1
    have bw:ix w=(w -1000).toNat:=rfl
    have e5:cG (w -1000)=w -1000:=aR V V
    rw[e5,<-bw]
    refine⟨V,V,S9.cX.heap.wr (o:=0) a7 bn,?_⟩
    intro b9
    let⟨bv,bg⟩:=S9.cX.heap.setCell S9.cX.new a7 0 0 (f:=.mk D.size 0 0 0) (l:=[]) ⟨rfl,aN,aN,aN⟩ (λZ=>absurd rfl Z)
    let⟨az,aQ⟩:=S9.gD (bg.mono λR Q=>Or.inl Q) bv
    have aW:=B9.to aQ
    refine⟨aQ.dL B9,t,az.cX.box.cq 7,(ye (az.cX.heap.cells bG)).mono ?_⟩
    rintro _ b_ ⟨rfl,bh⟩
    let⟨ac,aS⟩:=az.ext bh
    have aX:=aW.to aS
    refine⟨aS.dL aW,_,rfl,ac.cX.mK (i:=7) aN,?_⟩
    intro aL
    obtain⟨be,ca⟩:=ac.gD (dx.aA _ ac.cX.new) (ac.cX.heap.cut (ue _ _))
    obtain⟨bf,aT⟩:=be.jF 7 [.s (t.cut 0 (jy (b.heap.set (ix w) jd) (b.heap.set (ix w) jd).length) 3)]
    have bd:=aX.to aT
    have aV:To n D n aL:=((X.trans aQ).trans aS).trans aT
    have bH:ap aL N ((aM b.heap w).aH++[ag]):=jb ba λ_=>aV.eC _ (oh I.size) (by rw[ay];simp)
    have bI:cK aL G.size dZ [.i z.op,.i z.dst,.i z.bS,.i z.cg,.s aa,.s ah]:=bb.congr (aV.eC _ (B8 G.size aN).1 (by rw[(B8 G.size aN).2];simp))
    refine⟨aT.dL aX,n,_,_,_,A,bf,bc.trans aV,bd,bI,bH,λ_=>ay,a9,hq,bG,aG,λC=>V,λ_=>a5 _ ?_⟩
    rw[apart,ao aK];rfl
   .have aK:(aM b.heap w).aQ≠1:=λC=>by have:=hb.2 C;rw[a2]at this;simp at this
    let⟨S,bL⟩:=S7.gD (I.mono λR Q=>Or.inl Q) (bp a2)
    refine⟨n,t,_,_,A,S,bc,B8,bb,ba,λ_=>ay,a9,hq,bG,aG,λC=>V,λ_=>a5 _ ?_⟩
    rw[apart,ae aK]
  .simp at ai
   have D:z.op=9\/z.op=24:=V
   let⟨A,N,I,Q⟩:=a4 D
   have aj:dR a z.bS=A:=by simp[dR,I]
   refine⟨n,t,b.heap,cQ c z.args,A,S3,t2.trans t3,B3,kB.ext aA,ar,λZ=>bJ ow V (λC=>by subst C;have:=ar.len;simp at this;exact Z (List.length_eq_zero_iff.1 this.symm)),N,I,V,by rw[JG D,aj],λC=>?_,λC=>?_⟩
   .rw[rh,ae V,ao C]
   .rw[rh,ao V]
 .rintro K wv m4 ⟨au,aX,aS,B,A,S4,t4,B4,be,aY,bd,a9,hq,bh,aG,a6,a7⟩
  have aj:dR a K=A:=by simp[dR,hq]
  have bg:=(aE.dD A (aq hq)).ak
  have h3:=(aE.ov.dD A (aq hq)).1
  refine⟨b.bA,S4.cX.box.cq 4,S4.cX.mK (i:=4) aN,?_⟩
  have e3:cG (b.bA+1)=b.bA+1:=aR V V
  rw[e3]
  intro H
  let⟨P,t5⟩:=S4.jF 4 [.i (b.bA+1)]
  have B5:zG au H [G.size,m.size]:=B4.to t5
  replace t5:To au m4 au H:=t5
  have c5:dx (λR=>R=1) au m4 au H:=dx.ai S4.cX.new S4.cX.QN _ _
  have aZ:ap H wv B:=jb aY λZ=>c5.eC _ (iQ aY Z) (by rw[bd Z];decide)
  have bf:cK H G.size dZ [.i z.op,.i z.dst,.i z.bS,.i z.cg,.s aa,.s ah]:=be.congr (c5.eC _ (B4 G.size aN).1 (by rw[(B4 G.size aN).2];decide))
  replace P:ST u au H q bM (SB d p {b with bA:=b.bA+1,heap:=aS} aU aX j) aU aX j b.aU aS e c r v h y:=P
  refine⟨t5.dL B4,d,P.cX.box.cq 0,p,P.cX.box.cq 1,?_⟩
  clear_value H
  have a3:=t4.trans t5
  have kg:∀{I a1:E},J I a1->∀{ab ac:Nat}{ag:Value},af I ab ac=some ag->af a1 ab ac=af I ab ac:=λL=>L.dg
  have bc:(iT a z 0 B).length=B.length:=Eu _ _ _ _
  have bb:(bY a K z.dst B).ak=B++dt (A.ak.toNat -B.length):=by simp[bY,aj]
  have ba:(bY a K z.dst B).aS=iT a z 0 B++dt (A.ak.toNat -(iT a z 0 B).length):=by simp[bY,aj,aG,mr]
  have a_:(bY a K z.dst B).ba=dt A.ak.toNat:=by simp[bY,aj]
  have iS:∀(U az:E)(nb b1 b2 b3:Nat),J H U->rC U az b1 b2 b3 A.ak.toNat (B++dt (A.ak.toNat -B.length)) (iT a z 0 B++dt (A.ak.toNat -(iT a z 0 B).length)) (dt A.ak.toNat)->U.size<=nb/\nb<az.size->nb≠b1/\nb≠b2/\nb≠b3->
   NE q nb [G.size,m.size] z.op c.pc c.dst K 0 z.dst (.mk b1 0 A.ak.toNat A.ak.toNat) (.mk b2 0 A.ak.toNat A.ak.toNat) (.mk b3 0 A.ak.toNat A.ak.toNat) az (λ_ M=>yI u n m q d p (rh a b e c z) M):=λU az nb b1 b2 b3 L N aQ Z=>by
   let⟨SM,tM⟩:=P.ext L
   refine OO (s:={b with bA:=b.bA+1,heap:=aS}) (g:=bY a K z.dst B) (c:=z) SM (B5.to tM) (by rw[bb,ba,a_];exact N) aQ Z V bB (λC M hF=>?_) (λC M hF=>?_)
   .rw[a6 C];exact yI.from hF (a3.trans tM)
   .rw[a7 C];exact yI.from hF (a3.trans tM)
  have aJ:∀{U:E}{os:O},J H U->ap U os (iT a z 0 B)->aO cp 129 [.agg #[O.v d,O.v p],vi K,vi z.dst,O.v wv,O.v os] U _:=λL ho=>yB (aP.ext (P.cX.cA.trans L)) a9 hq V z.dst (aZ.ext L) ho V bc
  have ay:∀{I S:E},J H I->J I S->∀ac,ac<6->af S G.size ac=af I G.size ac:=λY F ac hi=>by
   have R:=bf.ext Y;match ac,hi with
   |0,_=>exact F.dg (R.cq 0)
   |1,_=>exact F.dg (R.cq 1)
   |2,_=>exact F.dg (R.cq 2)
   |3,_=>exact F.dg (R.cq 3)
   |4,_=>exact F.dg (R.cq 4)
   |5,_=>exact F.dg (R.cq 5)
  have Kw:∀{I S:E},J H I->J I S->af S q 0=af I q 0/\af S q 1=af I q 1:=λY F=>⟨F.dg (Y.af (P.cX.box.cq 0)),F.dg (Y.af (P.cX.box.cq 1))⟩
  have a2:∀{U:E},J H U->oN 160 [vp q 0,xv z aa ah,O.v wv] U (iT a z 0 B):=λL=>Fc (aP.ext (P.cX.cA.trans L)) (L.af (P.cX.box.cq 0)) (L.af (P.cX.box.cq 1)) br aa ah (aZ.ext L) V
  have sm:∀{I S:E},J H I->J I S->eF [G.size,m.size] I S:=λY F=>F.dz λab hb=>Y.lt (B5 ab hb).1
  have aT:∀{I S:E}{nb:Nat},J H I->J I S->nb<I.size->eF [nb,G.size,m.size] I S:=λY F aQ=>F.dz λab hb=>by
   rcases List.mem_cons.1 hb with rfl|hb
   .exact aQ
   .exact Y.lt (B5 ab hb).1
  refine⟨(a2 (J.aA _)).mono ?_,?_⟩
  .rintro _ ai ⟨os,rfl,oo,Q⟩
   have io:ap ai os (iT a z 0 B):=ap.gC oo V
   refine⟨sm (J.aA _) Q,os,rfl,ay (J.aA _) Q 1 V,(Kw (J.aA _) Q).1,(Kw (J.aA _) Q).2,?_,?_⟩
   .refine(aJ Q io).mono ?_
    rintro _ am ⟨b1,b2,b3,rfl,N⟩
    have aK:=N.ext
    have aV:=Q.trans aK
    refine⟨sm Q aK,_,_,_,_,_,_,rfl,?_⟩
    intro a0
    have aL:J am a0:=(J.aA am).aL _
    have D:=ay aV aL
    have X:=Kw aV aL
    refine⟨D 0 V,D 1 V,D 2 V,D 3 V,D 4 V,D 5 V,D 1 V,X.1,X.2,?_⟩
    intro aH
    have a5:J am aH:=aL.ai (ad _) _ _
    have bi:aH.size=am.size+1:=by simp[aH,a0,ax]
    have aW:=N.lo
    exact iS ai aH am.size b1 b2 b3 Q (N.SK a5) ⟨by have:=aK.size;omega,V⟩ ⟨V,V,V⟩
   .intro aH
    have am:J ai aH:=(J.aA ai).aL _
    have a5:aH.size=ai.size+1:=by simp[aH]
    have D:=ay Q am
    have X:=Kw Q am
    refine⟨D 0 V,D 1 V,D 2 V,D 3 V,D 4 V,D 5 V,D 1 V,X.1,X.2,?_⟩
    clear_value aH
    refine(aJ (Q.trans am) (io.ext am)).mono ?_
    rintro _ a0 ⟨b1,b2,b3,rfl,N⟩
    have aK:=N.ext
    refine⟨aT (Q.trans am) aK V,_,_,_,_,_,_,rfl,?_⟩
    intro aL
    have aW:=N.lo
    have aV:=N.box am (nb:=ai.size) (ad _) V 0 [.i K,.i 0,.i z.dst,.s (.mk b1 0 A.ak.toNat A.ak.toNat),.s (.mk b2 0 A.ak.toNat A.ak.toNat),.s (.mk b3 0 A.ak.toNat A.ak.toNat)]
    exact iS ai aL ai.size b1 b2 b3 Q aV ⟨ad _,by simp only[aL,ax];have:=aK.size;omega⟩ ⟨V,V,V⟩
  .intro ai
   have Q:J H ai:=(J.aA H).aL _
   have a5:ai.size=H.size+1:=by simp[ai]
   have D:=ay (J.aA _) Q
   have X:=Kw (J.aA _) Q
   refine⟨D 0 V,D 1 V,D 2 V,D 3 V,D 4 V,D 5 V,D 1 V,X.1,X.2,?_⟩
   clear_value ai
   refine(a2 Q).mono ?_
   rintro _ aV ⟨os,rfl,oo,W⟩
   have io:ap aV os (iT a z 0 B):=ap.gC oo V
   have am:=Q.trans W
   have bi:=W.size
   refine⟨aT Q W V,os,rfl,ay Q W 1 V,(Kw Q W).1,(Kw Q W).2,?_⟩
   refine(aJ am io).mono ?_
   rintro _ a0 ⟨b1,b2,b3,rfl,N⟩
   have aH:=N.ext
   refine⟨aT am aH V,_,_,_,_,_,_,rfl,?_⟩
   intro aK
   have aW:=N.lo
   have aL:=N.box am (nb:=H.size) (ad _) V 0 [.i K,.i 0,.i z.dst,.s (.mk b1 0 A.ak.toNat A.ak.toNat),.s (.mk b2 0 A.ak.toNat A.ak.toNat),.s (.mk b3 0 A.ak.toNat A.ak.toNat)]
   exact iS H aK H.size b1 b2 b3 (J.aA _) aL ⟨ad _,by simp only[aK,ax];have:=aH.size;omega⟩ ⟨V,V,V⟩
def Nt(S:ST u n m q bM (SB d p b aU t j) aU t j b.aU b.heap e c r v h y)(ae:e.length<=100000)(w:Int)(U:∀g,e.getLast?=some g->0<=c.dst/\c.dst<g.ak.length/\c.dst<g.aS.length):
 aO cp 111 [vp q 0,fv c r v h,vi w] m λ_ Z=>yI u n m q d p (match e.getLast? with|none=>{b with cw:=0,value:=w,an:=[]}|some g=>{b with an:=e.dropLast++[g.put c.dst w (gP w)]}) Z:=by
 apply vH (q,0)
 simp -zeta only[aD,aC]
 intro f
 have Y:J m f:=(J.aA m).aL _
 have s1:f.size=m.size+1:=by simp[f]
 let⟨k,t1⟩:=S.ext Y
 have M:n m.size=0:=S.cX.new _ (ad _)
 have C:zG n f [m.size]:=λE G=>by simp at G;subst G;exact⟨V,M⟩
 clear_value f
 have H:=k.fW.yo
 have ab:=k.fW.qD.le
 have z:cG ((j.len:Int) -1)=(e.length:Int):=by rw[aR V V];omega
 have L:Int.toNat (e.length:Int)=e.length:=V
 have F:af f q 8=some (O.v j):=k.cX.box.cq 8
 refine⟨j,F,j,F,?_⟩
 rw[z,L]
 refine⟨V,V,V,k.cX.mK (i:=8) aN,?_⟩
 intro m2
 let⟨x,t2⟩:=k.cX.jF 8 [.s (j.cut 0 e.length 6)]
 obtain⟨a,_⟩:=x.jR (dx.aA _ x.new) (x.an.Vx)
 have o:=C.to t2
 have ac:(j.cut 0 e.length 6).len=e.length:=by
  cases j with
  |nil=>simp at H
  |zX E I l=>simp at H
  |mk E I A l=>simp[O.cut]
 have e3:Int.toNat (0:Int)=0:=rfl
 refine⟨t2.dL C,j.cut 0 e.length 6,a.box.cq 8,λA=>?_,λA=>?_⟩
 .simp at A
  have N:e=[]:=List.length_eq_zero_iff.1 V
  subst N
  refine⟨a.mK (i:=2) (by simp[ly]),?_⟩
  intro m3
  let⟨l,t3⟩:=a.jF 2 [.i 0]
  have D:=o.to t3
  refine⟨t3.dL o,l.mK (i:=3) (by simp[ly]),?_⟩
  intro P
  let⟨K,B⟩:=l.jF 3 [.i w]
  exact⟨B.dL D,n,aU,t,_,K,(((t1.trans t2).trans t3).trans B)⟩
 .simp at A
  have X:e.length≠0:=V
  have B:e≠[]:=λz=>X (by rw[z];rfl)
  obtain⟨g,l⟩:∃g,e.getLast?=some g:=⟨_,gH B⟩
  let⟨N,P,Q⟩:=U g l
  rw[l]
  simp only[]
  have W:e=e.dropLast++[g]:=by
   rw[gH B]at l;simp at l;rw[<-l];exact(fy B).symm
  have D:vS u n m2 q bM (SB d p b aU t (j.cut 0 e.length 6)) aU t (j.cut 0 e.length 6) b.aU b.heap (e.dropLast++[g]):=
   ⟨a.cA,a.jZ,a.new,a.box,a.QN,a.aU,a.heap,by rw[<-W];exact a.an⟩
  let⟨r',I,h',aa,T⟩:=D.an.fW
  have R:e.dropLast.length<=100000:=bG
  refine(tY (a:=b) ⟨D,T⟩ R N P Q w).mono ?_
  rintro _ m3 ⟨K,t3⟩
  exact⟨t3.dL o,n,aU,t,_,K.cX,(t1.trans t2).trans t3⟩
end
end
section
variable{b:cV}{a:Instr}
def zE.HE{s:St}{d:List aY}{f:aY}(C:zE b s d f a){aS:List Int}(j:aS=bC f.ak f.aS (bU b a))(i:∀o∈aS,0<=o):
 fL s.heap (λc=>fD d c+di f.ak aS c+eD ((bU b a).map (aF f.ak)) c)/\∀c,0<=fD d c+di f.ak aS c:=by
 have e:=yi (ak:=f.ak) (bU b a) f.aS C.KD C.Gu.1
 rw[<-j]at e
 refine⟨C.ok.heap.congr λc=>?_,λc=>?_⟩
 .rw[C.fr,fZ,ln,e];omega
 .have:=KB (b:=d) (λg h=>C.ok.an g (by rw[C.fr];exact bL _ h)) c
  have:=tK (ak:=f.ak) i c
  omega
def QY{a:List bB}{t kE:Int}(h:kE∈cB a t):1<=t/\t<=a.length/\(tD (cB a t) kE:Int)=kE -fc a (t.toNat -1)/\(fc a (t.toNat -1):Int)<=kE:=by
 unfold cB at h⊢;by_cases b:1<=t/\t<=a.length
 .rw[ao b]at h⊢;let⟨d,hd⟩:=cL a (t.toNat -1);rw[hd]at h⊢;simp only[oC,vO]at h⊢;let⟨i,c,e⟩:=List.mem_map.1 h;rw[List.mem_range]at c;have f:tD ((List.range d.cons.length).map λi=>((fc a (t.toNat -1)+i:Nat):Int)) kE=i:=by
   unfold tD;rw[List.findIdx_eq (by simpa using c)];refine⟨by simp[<-e],λj g=>?_⟩;simp;omega
  rw[f];exact⟨b.1,b.2,V,V⟩
 .rw[ae b]at h;simp at h
def Ph{k d e:Int}(l:gS d)(o:gS e)(m:E):HL cp 107 [vi k,vi d,vi e] m (vi (O9 k d e)):=by
 have i:∀n:Int,-2000000<=n/\n<=2000000->HL cp 154 [vi (cG n)] m (vi (FT n)):=λn q=>by
  apply ID;rw[aR V V];refine⟨?_,J.aA _⟩;unfold FT;congr 1;repeat' split
  all_goals omega
 unfold gS at l o;have p: -2000000<=d*e/\d*e<=2000000:=by
  have a:(d*e).natAbs<=999*999:=by rw[Int.natAbs_mul];exact MO V V
  omega
 apply Km;unfold O9;refine⟨λa=>?_,λa=>⟨λb=>?_,λb=>⟨λc=>?_,λc=>⟨λf=>⟨λh=>?_,λh=>?_⟩,λf=>?_⟩⟩⟩⟩
 .simp at a;rw[ao a];exact(i _ V).then λj g=>⟨_,rfl,rfl,g⟩
 .simp at a b;rw[ae a,ao b];exact(i _ V).then λj g=>⟨_,rfl,rfl,g⟩
 .simp at a b c;rw[ae a,ae b,ao c];exact(i _ p).then λj g=>⟨_,rfl,rfl,g⟩
 .simp at a b c f h;rw[ae a,ae b,ae c,ao ⟨f,h⟩];exact⟨rfl,J.aA _⟩
 .simp at a b c f h;rw[ae a,ae b,ae c,ae V];exact⟨rfl,J.aA _⟩
 .simp at a b c f;rw[ae a,ae b,ae c,ae V];exact⟨rfl,J.aA _⟩
section
variable{q:E}{j:Nat->Nat}{m:E}{t:Nat}{d p aU n k:O}{c:St}{g:List aY}{f:aY}{r o h:O}{u:List (List Ce)}
def Kl(C:zE b c g f a){aS:List Int}(az:aS=bC f.ak f.aS (bU b a))(hM:lA b c f a aS)
 (ab:ST q j m t bM (SB d p c aU n k) aU n k c.aU c.heap g {f with aS:=aS} r o h u)(aX:fC q d p b){av a4:O}(ha:ap q av a.args)(hj:ap q a4 a.eN)(bq:c.heap.length<=900000000)(bB:c.aU.length<=900000000):
 aO cp 43 [vp t 0,fv f r o h,xv a av a4] m λ_ R=>yI q j m t d p (fH b c g f a aS) R:=by
 apply tX (t,0)
 simp -zeta only[aD,aC]
 intro m1 A
 have bl:J m A:=((J.aA m).aL _).aL _
 have s1:m1.size=m.size+1:=by simp[m1]
 have s2:A.size=m.size+2:=by simp[A,s1]
 have D:=zG.Kw ab.cX.new s1 s2
 have U:cK A m1.size dZ [.i a.op,.i a.dst,.i a.bS,.i a.cg,.s av,.s a4]:=cK.push m1 _ _
 have kF:cK A m.size dS [.i f.fw,.i f.pc,.i f.dst,.s r,.s o,.s h]:=(cK.push m _ _).ext (J.push m1 _)
 let⟨y,t2⟩:=ab.ext bl
 clear_value A
 have bA:aS.length=f.aS.length:=by rw[az];exact kC _ _ _
 have br:=C.Gu
 have F:=C.lL
 have hd:=C.dst
 have bi:=C.F.pc
 obtain⟨pq,_,bj,hP,bo,hI⟩:=C.I
 rw[bj]at bi
 have bD:=hP.len
 have ar:0<=f.pc/\f.pc<=100000:=V
 have a8:=C.ok.depth
 have bn:=C.ok.bA
 have bt:=C.ok.dX
 rw[C.fr]at a8
 have bp:g.length<=1000:=by simp at a8;omega
 have aZ:f.ak.length=aS.length/\f.ba.length=aS.length/\aS.length<=2000:=V
 have bF:r.len=f.ak.length:=by have:=ab.fW.ak.len;simp at this;omega
 have bw:o.len=aS.length:=by have:=ab.fW.aS.len;simp at this;omega
 have bm:=ha.len
 have e4:cG (f.pc+1)=f.pc+1:=aR V V
 have aa:1<=a.args.length->0<=aF a.args 0/\aF a.args 0<f.ak.length:=λK=>C.arg _ (fq V V)
 have M:∀{R},J q R->1<=a.args.length->af R av.D (av.off+Int.toNat (0:Int)*1)=some (vi (aF a.args 0)):=λZ K=>(ha.ext Z).pO V V
 have T:∀{j m bx aU n k lo lh o h u own'},ST q j m t bM bx aU n k lo lh g {f with aS:=own'} r o h u->∀{aE:Int},0<=aE->aE<f.ak.length->af m r.D (r.off+Int.toNat aE*1)=some (vi (aF f.ak aE)):=λab aE h0 K=>(ab.Ax (by simp only[];omega)).pO h0 K
 have a7:=C.HE az hM.nn
 have bg:∀{j m n lh bx},ST q j m t bM bx aU n k c.aU lh g {f with aS:=aS} r o h u->iK m k (g++[{f with aS:=aS}]):=λab=>ab.cX.an.Ey bG (λah G=>by
  rcases List.mem_append.1 G with G|G
  .have Y:=C.ok.an ah (by rw[C.fr];exact bL _ G);obtain⟨pg,_,aI,ax,_⟩:=Y.Al C.ok.fm;have K:=Y.lr;have N:=Y.lo;have h3:=Y.lh;rw[aI]at K N h3;have:=ax.ak;omega
  .simp at G;subst G;simp only[];omega)
 have a_:∀r',r'∈a.args->aF f.ak r'<1000->gS (aF f.ak r'):=λr' bk bs=>by
  have ay:=C.arg r' bk;rcases C.F.So _ (fq ay.1 ay.2)with P|P
  .exact P
  .omega
 have a5:∀{ac:E}(Z:J A ac)(X:Int)(s':St),s'={c with an:=g++[aY.put {f with aS:=aS,pc:=f.pc+1} a.dst X 0]}->
  aO cp 106 [vp t 0,vi a.dst,vi X] ac λ_ R=>eF [m1.size,m.size] ac R/\yI q j m t d p s' R:=λZ X s' v=>by
  let⟨SM,tM⟩:=y.ext Z
  refine(BD SM V hd.1 (by simp only[];omega) (by simp only[];omega) X ar).mono ?_
  rintro _ R ⟨S',t'⟩
  exact⟨t'.dL (D.to tM),j,aU,n,k,by rw[v];exact S'.cX,(t2.trans tM).trans t'⟩
 have aW:∀{ac:E}(Z:J A ac)(a1:Int)(s':St),s'={c with an:=g++[{f with aS:=aS,pc:=a1}]}->
  aO cp 113 [vp t 0,vi a1] ac λ_ R=>eF [m1.size,m.size] ac R/\yI q j m t d p s' R:=λZ a1 s' v=>by
  let⟨SM,tM⟩:=y.ext Z
  refine(kd SM V a1).mono ?_
  rintro _ R ⟨S',t'⟩
  exact⟨t'.dL (D.to tM),j,aU,n,k,by rw[v];exact S'.cX,(t2.trans tM).trans t'⟩
 refine⟨λv=>?_,λe0=>?_⟩
 .simp at v
  exact a5 (J.aA _) _ _ (by unfold fH;simp only[];rw[ao v])
 simp only[aj]at e0
 refine⟨λv=>?_,λe1=>?_⟩
 .simp only[bT,aG]at v
  have N:=F.2.2.1 V
  have w:=aa V
  have H:0<=aF a.args 1/\aF a.args 1<f.ak.length:=C.arg _ (fq V V)
  have I:=hM.nX V
  refine⟨V,V,_,M y.cX.cA V,w.1,V,_,T y w.1 w.2,V,V,_,(ha.ext y.cX.cA).pO (i:=1) V V,H.1,V,_,T y H.1 H.2,?_⟩
  refine(Ph (a_ _ (fq V V) (I _ (fq V V))) (a_ _ (fq V V) (I _ (fq V V))) A).mono ?_
  rintro _ B ⟨rfl,z⟩
  refine⟨z.dz (λS hb=>(D S hb).1),_,rfl,z.dg (U.cq 1),a5 z _ _ ?_⟩
  unfold fH;simp only[];rw[ae e0,ao v]
 simp only[bu,aj]at e1
 have am:¬(a.op=1\/a.op=2\/a.op=3\/a.op=4):=V
 refine⟨λv=>?_,λe5=>?_⟩
 .simp only[aG]at v
  have N:=F.2.1 V
  have w:=aa V
  have ag:(O.len aU)=c.aU.length:=by have:=y.cX.aU.len;simp at this;omega
  refine⟨aU,y.cX.box.cq 6,V,V,_,M y.cX.cA V,w.1,V,_,T y w.1 w.2,?_⟩
  intro B
  have z:J A B:=(J.aA A).aL _
  have jD:fS B A.size 0 [.i (aF f.ak (aF a.args 0))]:=(cK.push A _ _).iL
  let⟨I,t3⟩:=y.ext z
  have B3:=D.to t3
  clear_value B
  refine⟨z.dg (y.cX.box.cq 6),iR.append (zs:=[.i 0]) (x:=.mk A.size 0 1 1) (c:=[.i (aF f.ak (aF a.args 0))]) I.cX.aU I.cX.new rfl jD (by simp only[O.gL];omega) λau aH m4 q1 q2=>?_⟩
  have Q:iR au m4 aB 1 2 aH ((c.aU++[aF f.ak (aF a.args 0)]).map Ce.i):=by simpa using q1
  let⟨L,H⟩:=I.Ix q2 Q
  have B4:=B3.to H
  refine⟨H.dL B3,L.cX.mK (i:=6) aN,?_⟩
  intro m5
  let⟨S5,W⟩:=L.jF 6 [.s aH]
  refine⟨W.dL B4,V,V,_,M S5.cX.cA V,w.1,V,_,T S5 w.1 w.2,?_⟩
  refine(BD (a:={c with aU:=c.aU++[aF f.ak (aF a.args 0)]}) S5 V hd.1 (by simp only[];omega) (by simp only[];omega) _ ar).mono ?_
  rintro _ m6 ⟨S6,t6⟩
  refine⟨t6.dL (B4.to W),au,aH,n,k,?_,(((t2.trans t3).trans H).trans W).trans t6⟩
  unfold fH;simp only[];rw[ae e0,ae am,ao v];exact S6.cX
 simp only[aj]at e5
 have ba:∀X∈f.ba,X≠0->1000<=X/\ix X<c.heap.length:=λX hw a0=>by
  obtain⟨K,dd,bf,_⟩:=C.Lz X hw a0;exact⟨K,aw bf⟩
 refine⟨λv=>?_,λe6=>?_⟩
 .simp only[aG]at v
  have h6:=F.2.2.2.2.1 v
  refine(uZ y ha C.arg F.1 a.bS aZ (by simp only[];omega) ⟨h6.1,h6.2.1⟩ ar V V ba).mono ?_
  rintro _ B ⟨al,ak,ai,ag,L3,t3⟩
  refine⟨t3.dL D,al,ak,ai,ag,?_,t2.trans t3⟩
  have:fH b c g f a aS=nL c g {f with aS:=aS} a a.bS:=by
   unfold fH nL;simp only[];rw[ae e0,ae am,ae e5,ao v];rfl
  rw[this];exact L3
 simp only[aj]at e6
 refine⟨λv=>?_,λaV=>?_⟩
 .simp only[aG]at v
  have aL:=F.2.2.2.2.2.1 v
  have ay:a.cg=0:=by rcases hI.cg with P|P;exact P;omega
  have aP:(eU b.br).length<=12:=by
   have:=rE C.ok.fm.ov.types b.br.length;rw[nk _ _ (ad _)]at this;exact this
  refine⟨d,y.cX.box.cq 0,(qS (aX.ext y.cX.cA).br C.ok.fm.ov.types).mono ?_⟩
  rintro _ B ⟨rfl,z⟩
  let⟨I,t3⟩:=y.ext z
  have e3:cG (((eU b.br).length:Int)+a.bS)=cv b+a.bS:=aR V V
  refine⟨t3.dL D,_,rfl,z.dg (U.cq 2),z.dg (U.cq 0),z.dg (U.cq 1),z.dg (U.cq 2),z.dg (U.cq 3),z.dg (U.cq 4),z.dg (U.cq 5),z.dg (kF.cq 0),z.dg (kF.cq 1),z.dg (kF.cq 2),z.dg (kF.cq 3),z.dg (kF.cq 4),z.dg (kF.cq 5),?_⟩
  rw[e3]
  refine(uZ I ha C.arg F.1 (cv b+a.bS) aZ (by simp only[];omega) (by rw[ay];omega) ar V V ba).mono ?_
  rintro _ m4 ⟨au,aK,aA,aJ,Q,H⟩
  refine⟨H.dL (D.to t3),au,aK,aA,aJ,?_,(t2.trans t3).trans H⟩
  have:fH b c g f a aS=nL c g {f with aS:=aS} a (cv b+a.bS):=by
   unfold fH nL;simp only[];rw[ae e0,ae am,ae e5,ae e6,ao v,ae (λhh=>hh.1 ay)];rfl
  rw[this];exact Q
 simp only[aj]at aV
 refine⟨λv=>?_,λe9=>?_⟩
 .simp only[bT,aG]at v
  have Q:=hI.op
  unfold mf at Q
  refine(Np y aX C.ok.fm ha C.arg F.1 V (λe'=>?_) (λe'=>⟨F.2.2.1 V,hM.apply e'⟩) aZ (λah G=>?_) ar V V V V C.ok.heap).mono ?_
  .rw[ae V,ae V,ae V,ae V,ao e']at Q;exact Q
  .have Y:=C.ok.an ah (by rw[C.fr];exact bL _ G)
   obtain⟨pg,_,aI,ax,_⟩:=Y.Al C.ok.fm
   have K:=Y.lr
   have N:=Y.lo
   have h3:=Y.lh
   rw[aI]at K N h3
   have:=ax.ak
   omega
  rintro _ B ⟨al,ak,ai,ag,L3,t3⟩
  refine⟨t3.dL D,al,ak,ai,ag,?_,t2.trans t3⟩
  have:fH b c g f a aS=rh b c g {f with aS:=aS} a:=by
   unfold fH rh;simp only[];rw[ae e0,ae am,ae e5,ae e6,ae aV,ae V,ae V,ae V,ae V,ae V,ae V,ae V,ae V];by_cases e9:a.op=9
   .rw[ao e9,ao e9];rfl
   .rw[ae e9,ae e9];by_cases Y:a.op=24
    .rw[ao Y,ao Y];rfl
    .rw[ae Y,ae Y,ao V]
  rw[this];exact L3
 simp only[bu,aj]at e9
 refine⟨λv=>?_,λbc=>?_⟩
 .simp only[aG]at v
  have N:=F.2.1 V
  have w:=aa V
  refine⟨V,V,_,M y.cX.cA V,w.1,V,_,T y w.1 w.2,(Nt y V (aF f.ak (aF a.args 0)) (λah G=>?_)).mono ?_⟩
  .have a0:g≠[]:=λv=>by rw[v]at G;simp at G
   have Y:g=g.dropLast++[ah]:=by
    rw[gH a0]at G;simp at G;rw[<-G];exact(fy a0).symm
   have aI:g.length=g.dropLast.length+1:=by
    have:=nE List.length Y;simpa using this
   let⟨q1,q2,q3⟩:=C.ok.chain g.dropLast.length ah f (by rw[C.fr,Y];simp) (by rw[C.fr,<-aI];simp)
   have ax:=C.ok.an ah (by rw[C.fr,Y];simp)
   have:=ax.lr
   have:=ax.lo
   exact⟨q1,by show f.dst<_;omega,by show f.dst<_;omega⟩
  rintro _ B ⟨al,ak,ai,ag,L3,t3⟩
  refine⟨t3.dL D,al,ak,ai,ag,?_,t2.trans t3⟩
  unfold fH
  simp only[]
  rw[ae e0,ae am,ae e5,ae e6,ae aV,ae V,ae V,ae V,ae V,ae V,ae V,ae V,ae V,ae V,ae V,ae V]
  exact L3
 simp only[aj]at bc
 have bh:∀(ah:St),(if a.op=0 then ah else ah)=ah:=λah=>by split<;>rfl
 have Nj:fH b c g f a aS=(
  if a.op=14 then{c with heap:=mP c.heap (aF f.ak (aF a.args 0)),an:=g++[{f with aS:=gA aS (aF a.args 0) (aF aS (aF a.args 0)+1),pc:=f.pc+1}]}
  else if a.op=15 then{c with heap:=mZ (iz c.heap [aF f.ak (aF a.args 0)]),an:=g++[{f with aS:=aS,pc:=f.pc+1}]}
  else if a.op=16\/a.op=17 then tJ c g {f with aS:=aS} a
  else if a.op=18 then{c with an:=g++[aY.put {f with aS:=aS,pc:=f.pc+1} a.dst (aF f.ak (aF a.args 0)) (gP (aF f.ak (aF a.args 0)))]}
  else if a.op=19 then{c with an:=g++[aY.put {f with aS:=aS,pc:=f.pc+1} a.dst (aF (aM c.heap (aF f.ak (aF a.args 0))).aH a.bS) 0]}
  else if a.op=20 then{c with an:=g++[{f with aS:=aS,pc:=if aF f.ak (aF a.args 0)=0 then a.bS else f.pc+1}]}
  else if a.op=21 then{c with an:=g++[{f with aS:=aS,pc:=aF a.eN (tD (cB b.br a.bS) (aM c.heap (aF f.ak (aF a.args 0))).kE)}]}
  else{c with an:=g++[{f with aS:=aS,pc:=a.bS}]}):=by
  unfold fH
  simp only[]
  rw[ae e0,ae am,ae e5,ae e6,ae aV]
  by_cases aI:a.op=14
  .rw[ao aI,ao aI]
  rw[ae aI,ae aI]
  by_cases aJ:a.op=15
  .rw[ao aJ,ao aJ]
  rw[ae aJ,ae aJ]
  by_cases aK:a.op=16\/a.op=17
  .rw[ao aK,ao aK];rfl
  rw[ae aK,ae aK]
  by_cases aL:a.op=18
  .rw[ao aL,ao aL]
  rw[ae aL,ae aL]
  by_cases aP:a.op=19
  .rw[ao aP,ao aP]
  rw[ae aP,ae aP]
  by_cases aQ:a.op=20
  .rw[ao aQ,ao aQ]
  rw[ae aQ,ae aQ]
  by_cases aT:a.op=21
  .rw[ao aT,ao aT]
  rw[ae aT,ae aT]
  have:=C.ZG
  rw[ao V]
 rw[Nj]
 clear Nj bh
 refine⟨λv=>?_,λa6=>?_⟩
 .simp only[aG]at v
  rw[ao v]
  have N:=F.2.1 V
  have w:=aa V
  let⟨Y,bv⟩:=hM.Xl v
  let⟨be,bE⟩:=bP Y
  refine⟨V,V,_,M y.cX.cA V,w.1,V,_,T y w.1 w.2,?_⟩
  intro B
  have z:J A B:=(J.aA A).aL _
  have ow:ig A B aB 1 (.mk A.size 0 1 1) ([aF f.ak (aF a.args 0)].map Ce.i):=ig.new (J.aA A) aB 1 _ 1 aN
  let⟨I,t3⟩:=y.ext z
  have B3:=D.to t3
  have hz:j A.size=0:=y.cX.new _ (ad _)
  clear_value B
  refine(DQ I.cX (ap.gC ow aN) (λ_=>hz) (λX hw=>?_) (λbb hc=>?_) aN V).mono ?_
  .simp at hw;subst hw;exact⟨Y.1,aw be⟩
  .have:=C.ok.heap.cell bb hc;have P:=this.lo;have h6:=this.hi;omega
  rintro _ m4 ⟨a2,c4⟩
  let⟨L,H⟩:=I.gD (c4.mono λah hk=>Or.inl hk) a2
  have B4:=B3.to H
  have ax:aF a.args 0<aS.length:=V
  have bz:0<=aF aS (aF a.args 0)/\aF aS (aF a.args 0)<=999999:=by
   refine⟨hM.nn _ (fq (l:=aS) w.1 ax),?_⟩;have G:=kV (l:=aS) w.1 ax;rw[az]at G;let⟨qq,a3,a9⟩:=lD _ _ _ _ G;have:=(C.O8 qq (aq a3)).2;rw[<-az]at a9;omega
  have bd:cG (aF aS (aF a.args 0)+1)=aF aS (aF a.args 0)+1:=aR V V
  refine⟨H.dL B3,V,V,_,M L.cX.cA V,V,V,_,M L.cX.cA V,w.1,V,aF aS (aF a.args 0),(L.JH (by simp only[];omega)).pO w.1 ax,w.1,V,L.fW.aS.Om w.1 ax,?_⟩
  rw[bd,e4]
  intro m5
  let⟨S5,W⟩:=L.qd w.1 ax (aF aS (aF a.args 0)+1)
  refine⟨W.dL B4,(kd (a:={c with heap:=iW c.heap [aF f.ak (aF a.args 0)]}) S5 V (f.pc+1)).mono ?_⟩
  rintro _ m6 ⟨S6,t6⟩
  exact⟨t6.dL (B4.to W),j,aU,n,k,S6.cX,(((t2.trans t3).trans H).trans W).trans t6⟩
 simp only[aj]at a6
 rw[ae a6]
 have bb:a.args.length=1->a.args=[aF a.args 0]:=λK=>by
  cases Z:a.args with
  |nil=>rw[Z]at K;simp at K
  |cons ax G=>cases G with
   |nil=>rfl
   |cons bd G=>rw[Z]at K;simp at K
 refine⟨λv=>?_,λax=>?_⟩
 .simp only[aG]at v
  rw[ao v]
  have N:=F.2.1 V
  have w:=aa V
  have ht:bU b a=[aF a.args 0]:=by unfold bU;rw[ao V];exact bb V
  have G:=a7.1
  rw[ht]at G
  refine⟨n,y.cX.box.cq 7,V,V,_,M y.cX.cA V,w.1,V,_,T y w.1 w.2,?_⟩
  intro B
  have z:J A B:=(J.aA A).aL _
  have ow:ig A B aB 1 (.mk A.size 0 1 1) ([aF f.ak (aF a.args 0)].map Ce.i):=ig.new (J.aA A) aB 1 _ 1 aN
  let⟨I,t3⟩:=y.ext z
  have B3:=D.to t3
  clear_value B
  refine⟨z.dg (y.cX.box.cq 7),(GW I.cX.heap I.cX.new (ap.gC ow aN) (e:=λS=>fD g S+di f.ak aS S) (G.congr λS=>rfl) a7.2 V).mono ?_⟩
  rintro _ m4 ⟨au,aA,rfl,a2,c4⟩
  let⟨L,H⟩:=I.gD c4 a2
  have B4:=B3.to H
  refine⟨H.dL B3,aA,rfl,L.cX.mK (i:=7) aN,?_⟩
  intro m5
  let⟨S5,W⟩:=L.jF 7 [.s aA]
  rw[e4]
  refine⟨W.dL B4,(kd (a:={c with heap:=mZ (iz c.heap [aF f.ak (aF a.args 0)])}) S5 V (f.pc+1)).mono ?_⟩
  rintro _ m6 ⟨S6,t6⟩
  exact⟨t6.dL (B4.to W),au,aU,aA,k,S6.cX,(((t2.trans t3).trans H).trans W).trans t6⟩
 simp only[aj]at ax
 rw[ae ax]
 refine⟨λv=>?_,λau=>?_⟩
 .simp only[bT,aG]at v
  rw[ao v]
  refine(I7 y ha C.arg ⟨F.2.2.2.1 v,F.1⟩ v aZ ar V V (λaH G=>?_) (hM.LN v).1 C.ok.heap).mono ?_
  .refine⟨hM.nn aH G,?_⟩
   let⟨ah,hk⟩:=List.mem_iff_getElem?.1 G
   simp only[]at hk
   rw[az]at hk
   let⟨qq,a3,a9⟩:=lD _ _ _ _ hk
   have:=(C.O8 qq (aq a3)).2
   omega
  rintro _ B ⟨al,ak,ai,ag,L3,t3⟩
  exact⟨t3.dL D,al,ak,ai,ag,L3,t2.trans t3⟩
 simp only[bu,aj]at au
 rw[ae V]
 refine⟨λv=>?_,λW=>?_⟩
 .simp only[aG]at v
  rw[ao v]
  have N:=F.2.1 V
  have w:=aa V
  refine⟨V,V,_,M y.cX.cA V,w.1,V,_,T y w.1 w.2,(tY y V hd.1 (by simp only[];omega) (by simp only[];omega) _).mono ?_⟩
  rintro _ B ⟨I,t3⟩
  rw[e4]
  refine⟨t3.dL D,(kd I V (f.pc+1)).mono ?_⟩
  rintro _ m4 ⟨L,H⟩
  exact⟨H.dL (D.to t3),j,aU,n,k,L.cX,(t2.trans t3).trans H⟩
 simp only[aj]at W
 rw[ae W]
 have ai:=y.rv aX V V (bg y)
 refine⟨λv=>?_,λI=>?_⟩
 .simp only[aG]at v
  rw[ao v]
  have N:=F.2.1 V
  have w:=aa V
  let⟨Y,G⟩:=hM.load v
  have Q:=hI.op
  unfold mf at Q
  rw[ae V,ae V,ae V,ae V,ae V,ae V,ae V,ao v]at Q
  refine⟨V,V,_,M y.cX.cA V,w.1,V,_,T y w.1 w.2,(fU ai Y.1 (bP Y).1).mono ?_⟩
  rintro _ B ⟨fl,rfl,H,z⟩
  have L:=H.len
  refine⟨z.dz (λS hb=>(D S hb).1),_,_,_,rfl,z.dg (U.cq 2),z.dg (U.cq 1),Q.2.1,V,_,H.pO Q.2.1 G,a5 z _ _ rfl⟩
 simp only[aj]at I
 rw[ae I]
 refine⟨λv=>?_,λL=>?_⟩
 .simp only[aG]at v
  rw[ao v]
  have N:=F.2.1 V
  have w:=aa V
  refine⟨V,V,_,M y.cX.cA V,w.1,V,_,T y w.1 w.2,λP=>?_,λP=>?_⟩
  .simp at P;exact aW (J.aA _) _ _ (by rw[ao P])
  .simp at P;rw[e4];exact aW (J.aA _) _ _ (by rw[ae P])
 simp only[aj]at L
 rw[ae L]
 refine⟨λv=>?_,λag=>?_⟩
 .simp only[aG]at v
  rw[ao v]
  have N:=F.2.1 V
  have w:=aa V
  let⟨Y,ak⟩:=hM.Fy v
  let⟨be,bv,a2,aH⟩:=QY ak
  have Q:=hI.op
  unfold mf at Q
  rw[ae V,ae V,ae V,ae V,ae V,ae V,ae V,ae V,ae V,ae V,ao v]at Q
  have a3:tD (cB b.br a.bS) (aM c.heap (aF f.ak (aF a.args 0))).kE<(cB b.br a.bS).length:=uo ⟨_,ak,aN⟩
  have bd:=hj.len
  have a9:=Q.2.2.1
  have aA:=(C.ok.heap.cell _ (aq (bP Y).1)).ph (bP Y).2
  have bz:=C.ok.fm.ov.types.len
  refine⟨V,V,_,M y.cX.cA V,w.1,V,_,T y w.1 w.2,(fU ai Y.1 (bP Y).1).mono ?_⟩
  rintro _ B ⟨fl,rfl,H,z⟩
  have e7:cG (a.bS -1)=((a.bS.toNat -1:Nat):Int):=by rw[aR V V];omega
  rw[e7]
  have al:=y.cX.cA.trans z
  refine⟨z.dz (λS hb=>(D S hb).1),_,_,_,rfl,d,z.af (y.cX.box.cq 0),(kD (aX.ext al).br C.ok.fm.ov.types V).mono ?_⟩
  rintro _ m4 ⟨rfl,G⟩
  have e8:cG ((aM c.heap (aF f.ak (aF a.args 0))).kE -((fc b.br (a.bS.toNat -1):Nat):Int))=((tD (cB b.br a.bS) (aM c.heap (aF f.ak (aF a.args 0))).kE:Nat):Int):=by
   rw[aR V V];omega
  refine⟨G.dz (λS hb=>z.lt (D S hb).1),_,rfl,G.dg ((U.ext z).cq 5),?_⟩
  rw[e8]
  refine⟨V,V,_,(hj.ext (al.trans G)).pO V V,aW (z.trans G) _ _ rfl⟩
 simp only[aj]at ag
 rw[ae ag]
 refine⟨λv=>aW (J.aA _) _ _ rfl,λw=>?_⟩
 simp only[aj]at w
 have:=C.ZG
 omega
end
end
section
def Ux(l a:List Int)(h:a.length=l.length):jt (l.map Ce.i) 0 (a.map Ce.i)=a.map Ce.i:=by
 have:=Cs [] (a.map Ce.i) (l.map Ce.i) bG;simp only[eH,eY]at this;rw[this,Jr bG,eg]
section
variable{p:E}{b:Nat->Nat}{m:E}{q e:Nat}{i:List Ce}{aU j g:O}{l:List Int}{k:List bK}{c:List aY}{f:aY}{r a h:O}{d:List (List Ce)}
def ST.Vj(S:ST p b m q e i aU j g l k c f r a h d){aS:List Int}(t:aS.length=f.aS.length)(w:0<aS.length):fO m a.D a.off (aS.map Ce.i).length/\ST p b (ai m a.D a.off (aS.map Ce.i)) q e i aU j g l k c {f with aS:=aS} r a h d/\To b m b (ai m a.D a.off (aS.map Ce.i)):=by
 have T:=S.fW;have B:a.cap≠0:=λe=>by have:=(T.aS.DF e).1;simp at this;rw[this]at t;simp at t;rw[t]at w;simp at w
 have A:=T.aS.D B;have s:dx (λu=>u=11+3*c.length) b m b (ai m a.D a.off (aS.map Ce.i)):=dx.ai S.cX.new A.2 _ _;have x:=T.aS.set (o:=0) (new:=aS.map Ce.i) bG;rw[Ux _ _ t,jN]at x;have v:tv b (ai m a.D a.off (aS.map Ce.i)) g c {f with aS:=aS} r a h d:=⟨T.qD.eJ s V,T.len,T.size,T.yv s λu _ y=>V,T.ak.eJ s V,x,T.ba.eJ s V⟩;let⟨y,z⟩:=S.cX.jR (s.mono λu C=>V) v.tq;refine⟨?_,⟨y,v⟩,z⟩;have:=T.aS.wr (o:=0) (n:=(aS.map Ce.i).length) bG;rw[jN]at this;exact this
end
section
variable{h:E}{e:Nat->Nat}{b:E}{g:Nat}{d p aU c a:O}{s:St}
def Hp{k:cV}(M:vS h e b g bM (SB d p s aU c a) aU c a s.aU s.heap s.an)(I:fC h d p k)(z:cW k s)(aL:∀P∈s.an,∀A∈P.ak,A<=9223372036854775807)(aP:s.heap.length<=900000000)(aW:s.aU.length<=900000000):
 aO cp 16 [vp g 0] b λ_ m'=>yI h e b g d p (j7 k s) m':=by
 apply wR (g,0)
 simp -zeta only[aD,aC]
 refine⟨s.cw,M.box.cq 2,λT=>?_,λT=>?_⟩
 .simp at T
  rw[th T]
  exact⟨e,aU,c,a,M,dx.aA _ M.new⟩
 have ab:s.cw=3:=by simpa using T
 let⟨n,j,u⟩:=z.split ab
 have aS:s.an.getLast?=some j:=by rw[u];simp
 have aJ:s.an.dropLast=n:=by rw[u];simp
 have C:zE k s n j (cR k j):=⟨z,ab,u,rfl,aL⟩
 have a1:j7 k s=(open Classical in if ns (cR k j).op/\s.bA=s.dX then{s with cw:=1}else if lA k s j (cR k j) (bC j.ak j.aS (bU k (cR k j)))then fH k s n j (cR k j) (bC j.ak j.aS (bU k (cR k j)))else{s with cw:=2}):=by
  unfold j7;rw[ae (by simpa using ab),aS,aJ]
 rw[a1]
 generalize cR k j=x at*
 have L':vS h e b g bM (SB d p s aU c a) aU c a s.aU s.heap (n++[j]):=by rw[<-u];exact M
 let⟨U,L,R,aA,Z⟩:=L'.an.fW
 have S:ST h e b g bM (SB d p s aU c a) aU c a s.aU s.heap n j U L R aA:=⟨L',Z⟩
 have a9:=Z.yo
 have am:=z.depth
 have a8:=z.bA
 have ba:=z.dX
 rw[u]at am
 have a_:n.length<=1000:=by simp at am;omega
 have e1:cG ((a.len:Int) -1)=(n.length:Int):=by rw[aR V V];omega
 have e2:Int.toNat (n.length:Int)=n.length:=V
 have Q:af b g 8=some (O.v a):=S.cX.box.cq 8
 let⟨g0,g1,g2,g3,g4,g5⟩:=Z.iL
 refine⟨a,Q,a,Q,?_⟩
 rw[e1,e2]
 refine⟨V,V,_,g0,_,g1,_,g2,U,g3,L,g4,R,g5,?_⟩
 intro m1
 have v:J b m1:=(J.aA b).aL _
 refine⟨v.dg g0,v.dg g1,v.dg g2,v.dg g3,v.dg g4,v.dg g5,v.dg Q,v.dg Q,?_⟩
 intro t
 have a2:J b t:=v.ai (ad _) _ _
 have s2:t.size=b.size+1:=by simp[t,m1,ax]
 have kF:cK t b.size dS [.i j.fw,.i j.pc,.i j.dst,.s U,.s L,.s R]:=cK.ai (m:=m1) (o:=0) (r:=[.i j.fw,.i j.pc,.i j.dst,.s U,.s L,.s R]) (cK.push b _ _)
 let⟨N,t2⟩:=S.ext a2
 clear_value t
 let⟨bh,hq,aZ,hP,aI,hI⟩:=C.I
 let⟨pa,pl,pc,bb,bd,ar,k0,k1,k2,k3,k4⟩:=I.cE.aF hq
 let⟨az,a3,ha,hj,i0,i1,i2,i3,i4,i5⟩:=ar.aF aI
 have be:=I.cE.len
 have bc:=ar.len
 have hF:=C.F
 have aY:=hF.fw
 have aq:=hF.pc
 rw[aZ]at aq
 have l:=N.cX.cA
 refine⟨p,N.cX.box.cq 1,aY.1,V,pc,l.af k4,aq.1,V,_,l.af i0,_,l.af i1,_,l.af i2,_,l.af i3,az,l.af i4,a3,l.af i5,?_⟩
 intro m3
 have q:J t m3:=(J.aA t).aL _
 refine⟨q.dg (l.af i0),q.dg (l.af i1),q.dg (l.af i2),q.dg (l.af i3),q.dg (l.af i4),q.dg (l.af i5),q.dg (kF.cq 1),q.dg (l.af k4),q.dg (kF.cq 0),q.dg (N.cX.box.cq 1),?_⟩
 intro K
 have ag:J t K:=q.ai (ad _) _ _
 have s4:K.size=t.size+1:=by simp[K,m3,ax]
 let⟨S4,t4⟩:=N.ext ag
 have a4:=kF.ext ag
 have B4:zG e K [t.size,b.size]:=λac H=>by
  simp at H;rcases H with rfl|rfl
  .exact⟨V,S.cX.new _ V⟩
  .exact⟨V,S.cX.new _ (ad _)⟩
 clear_value K
 have a7:=t2.trans t4
 refine(Mq _ _).mono ?_
 rintro _ m5 ⟨ac,rfl,H,ah⟩
 let⟨w,t5⟩:=S4.ext ah
 have W:=B4.to t5
 have B:=a4.ext ah
 have au:=a7.trans t5
 have aQ:=C.Gu
 have h4:=C.lL
 have aa:(bC j.ak j.aS (bU k x)).length=j.aS.length:=kC _ _ _
 refine⟨t5.dL B4,ac,rfl,λaG=>⟨s.bA,w.cX.box.cq 4,s.dX,w.cX.box.cq 5,λG=>?_,λG=>?_⟩,λaF=>?_⟩
 .simp at G
  refine⟨w.cX.mK (i:=2) aN,?_⟩
  intro m6
  let⟨F,D⟩:=w.jF 2 [.i 1]
  refine⟨D.dL W,e,aU,c,a,?_,au.trans D⟩
  rw[ao ⟨H.1 aG,G⟩]
  have:=F.cX
  rw[<-u]at this
  exact this
 all_goals
  have aH:¬(ns x.op/\s.bA=s.dX):=by
   first
   |exactλy=>by simp at G;exact G y.2
   |exactλy=>fb H aF y.1
  rw[ae aH]
  have al:=w.cX.cA
  refine⟨d,w.cX.box.cq 0,p,w.cX.box.cq 1,(Ku (I.ext al) C.call (ha.ext al) V h4.2.2.2.1).mono ?_⟩
  rintro _ m6 ⟨ts,rfl,ot,y⟩
  let⟨F,D⟩:=w.ext y
  have B6:=W.to D
  have bf:=Jm k x
  have it:ap m6 ts (bU k x):=ap.gC ot V
  refine⟨D.dL W,ts,rfl,y.dg (B.cq 0),y.dg (B.cq 1),y.dg (B.cq 2),y.dg (B.cq 3),y.dg (B.cq 4),y.dg (B.cq 5),?_⟩
  refine(I8 (b:=j) (F.Ax V) (F.JH V) it C.KD aQ.1 V V (λA E=>oh (C.O8 A E))).mono ?_
  rintro _ m7 ⟨os,rfl,oo,aE⟩
  let⟨A,t7⟩:=F.ext aE
  have B7:=B6.to t7
  have io:ap m7 os (bC j.ak j.aS (bU k x)):=ap.gC oo V
  have aM:iK m7 a (n++[j]):=A.cX.an.Ey bG (λP Y=>by
   have E:=z.an P (by rw[u];exact Y);obtain⟨pg,_,ai,X,_⟩:=E.Al z.fm;have q1:=E.lr;have q2:=E.lo;have q3:=E.lh;rw[ai]at q1 q2 q3;have:=X.ak;omega)
  have aj:=A.rv I V V aM
  have a0:({s with an:=n++[j]}:St)=s:=by rw[<-u]
  rw[a0]at aj
  refine⟨t7.dL B6,os,rfl,(Mt aj C (A.Ax V) (A.Rh V) (ha.ext A.cX.cA) io aa).mono ?_⟩
  rintro _ m8 ⟨b2,rfl,ak,ai⟩
  let⟨P,t8⟩:=A.ext ai
  have X:=B7.to t8
  have av:=((au.trans D).trans t7).trans t8
  refine⟨t8.dL B7,b2,rfl,λh9=>?_,λh9=>?_⟩
  .rw[ae (nb ak h9)]
   refine⟨P.cX.mK (i:=2) aN,?_⟩
   intro m9
   let⟨Y,E⟩:=P.jF 2 [.i 2]
   refine⟨E.dL X,e,aU,c,a,?_,av.trans E⟩
   have:=Y.cX
   rw[<-u]at this
   exact this
  .have hM:=yb ak h9
   rw[ao hM]
   have aV:=io.len
   have aT:L.len=j.aS.length:=by have:=P.fW.aS.len;simp at this;omega
   let⟨w1,Y,E⟩:=P.Vj aa V
   refine⟨(bC j.ak j.aS (bU k x)).map Ce.i,by rw[aV,aT,aa];simp[Nat.min_def];omega,(io.ext ai).Iv,w1,?_⟩
   intro m9
   have B9:=X.to E
   refine⟨E.dL X,(Kl C rfl hM Y I ha hj aP aW).mono ?_⟩
   rintro _ bg aK
   let⟨a6,a5,aX,aB,ay,aw⟩:=aK
   exact⟨aw.dL B9,a6,a5,aX,aB,ay,(av.trans E).trans aw⟩
end
end
section
variable{a:cV}{s:St}{n:Nat}
structure Sm(n:Nat)(s:St):Prop where
 heap:s.heap.length<=n
 aU:s.aU.length<=n
 uQ:∀g∈s.an,∀w∈g.ak,w<=9223372036854775807
def Ci:∀(n:Nat)(h:List bK)(g:List Int),Cx h+g.length<=n->(iz h g).length=h.length
 |n,h,[],_=>by rw[tn]
 |0,h,w::r,b=>by simp at b
 |n+1,h,w::r,b=>by
  simp only[be]at b;rcases dT (fQ h w)with a|a
  .let⟨e,f⟩:=bP a;by_cases c:(aM h w).aQ=1
   .have d:=kK (d:=jd) e;simp only[ao f,jd]at d;simp at d;rw[tp a c,Ci n _ _ (by simp[jd];omega)];simp
   .have d:=kK (d:={aM h w with aQ:=(aM h w).aQ -1}) e;simp only[ao f]at d;rw[ao V]at d;rw[qI a c,Ci n _ _ (by simp only[fu];omega)];simp[fu]
  .rw[qJ a,Ci n _ _ V]
def Qz(h:List bK):(mZ h).length<=h.length:=by unfold mZ;simp;omega
def LR:∀(a:List Int)(g:List bK),(iW g a).length=g.length
 |[],g=>rfl
 |w::a,g=>by rw[iW,LR a];simp[mP]
def NL(h:List bK)(w:Int):(apart h w).length<=h.length:=by
 unfold apart;split
 .exact bJ (Qz _) aN
 .rw[LR];simp[fu]
def Ob(h:List bK)(a:Nat)(c:bK):(jv h a c).length<=h.length+1:=by
 unfold jv;split<;>simp
def Ro{k:List aY}{f:aY}{x:Instr}(C:zE a s k f x)(B:Sm n s)(hn:n<=900000000)(aS:List Int)(Z:lA a s f x aS):Sm (n+1) (fH a s k f x aS):=by
 have hh:=B.heap;have ho:=B.aU;have v:=B.uQ;rw[C.fr]at v;have hF:=C.F;have Y:=C.lL;have hd:=C.dst;have af:=C.Gu;have t:∀r,aF f.ak r<=9223372036854775807:=λr=>by
  rcases aX r.toNat f.ak.length with m|m
  .let⟨y,b⟩:=dG m;rw[HU b];exact v f aN y (aq b)
  .rw[aF,fV,cT m];simp
 have yv:∀g∈k,∀w∈g.ak,w<=9223372036854775807:=λg p=>v g (by simp[p]);have c:∀{g:aY},(∀w∈g.ak,w<=9223372036854775807)->∀q∈k++[g],∀w∈q.ak,w<=9223372036854775807:=λp q d=>by
  rcases List.mem_append.1 d with d|d
  .exact yv q d
  .simp at d;subst d;exact p
 have e:∀w∈f.ak,w<=9223372036854775807:=v f aN;have j:∀(H:Int),H<=9223372036854775807->∀w∈gA f.ak x.dst H,w<=9223372036854775807:=λH hv w b=>by
  rcases pU b with rfl|b
  .exact hv
  .exact e w b
 have ab:∀{w},gS w\/fQ s.heap w->w<=9223372036854775807:=λh=>by
  rcases h with h|h
  .have:=h.2;omega
  .have m:=aw (bP h).1;unfold ix at m;omega
 have G:∀(g K:Int)(I:List Int),(∀w∈I,w<=9223372036854775807)->∀w∈(bY a g K I).ak,w<=9223372036854775807:=λg K I b w h=>by
  simp only[bY]at h;rcases List.mem_append.1 h with h|h
  .exact b w h
  .rw[qQ h];omega
 have Kw:∀{g q:aY},(∀w∈g.ak,w<=9223372036854775807)->(∀w∈q.ak,w<=9223372036854775807)->∀J∈k++[g,q],∀w∈J.ak,w<=9223372036854775807:=λp d J o=>by
  rcases List.mem_append.1 o with o|o
  .exact yv J o
  .simp at o;rcases o with rfl|rfl
   .exact p
   .exact d
 have aa:∀w∈cQ f x.args,w<=9223372036854775807:=λw b=>by
  obtain⟨r,_,rfl⟩:=List.mem_map.1 b;exact t r
 have ac:=qL s.heap;unfold fH;simp only[];by_cases y:x.op=0
 .rw[ao y];exact⟨by simp only[];omega,by simp only[];omega,c (j _ (oh (Y.2.2.2.2.2.2 y)))⟩
 rw[ae y];by_cases L:x.op=1\/x.op=2\/x.op=3\/x.op=4
 .rw[ao L];exact⟨by simp only[];omega,by simp only[];omega,c (j _ (oh ((Qg x.op (aF f.ak (aF x.args 0)) (aF f.ak (aF x.args 1))).2)))⟩
 rw[ae L];by_cases W:x.op=5
 .rw[ao W];exact⟨by simp only[];omega,bG,c (j _ (t _))⟩
 rw[ae W];by_cases A:x.op=6
 .rw[ao A];split
  .refine⟨bG,by simp only[];omega,c (j _ ?_)⟩;rename_i u;have E:=Y.2.2.2.2.1 A;obtain⟨F,D,z,_⟩:=C.Lz _ (fq (l:=f.ba) (i:=x.cg -1) V V) u.2;have:=aw z;unfold ix at this;omega
  .refine⟨?_,by simp only[];omega,c (j _ V)⟩;have:=Ob s.heap (dJ s.heap) ⟨1,x.bS,cQ f x.args⟩;simp only[];omega
 rw[ae A];by_cases M:x.op=10
 .rw[ao M];refine⟨?_,by simp only[];omega,c (j _ V)⟩;have:=Ob s.heap (dJ s.heap) ⟨1,cv a+x.bS,cQ f x.args⟩;simp only[];omega
 rw[ae M];by_cases N:x.op=14
 .rw[ao N];exact⟨by simp[mP];omega,by simp only[];omega,c e⟩
 rw[ae N];by_cases O:x.op=15
 .rw[ao O];refine⟨?_,by simp only[];omega,c e⟩;have m:=Qz (iz s.heap [aF f.ak (aF x.args 0)]);rw[Ci _ _ _ (ad _)]at m;simp only[];omega
 rw[ae O];by_cases P:x.op=16\/x.op=17
 .rw[ao P];split
  .exact⟨bG,by simp only[];omega,c e⟩
  .refine⟨?_,by simp only[];omega,c e⟩;have:=NL s.heap (aF f.ak (aF x.args 0));simp only[];omega
 rw[ae P];by_cases Q:x.op=18
 .rw[ao Q];exact⟨by simp only[];omega,by simp only[];omega,c (j _ (t _))⟩
 rw[ae Q];by_cases u:x.op=19
 .rw[ao u];refine⟨by simp only[];omega,by simp only[];omega,c (j _ ?_)⟩;let⟨E,S⟩:=Z.load u;obtain⟨T,_,_,_,_,R⟩:=C.I;have z:=R.op;unfold mf at z;rw[ae V,ae V,ae V,ae V,ae V,ae V,ae V,ao u]at z;let⟨D,F⟩:=bP E;exact ab (((C.ok.heap.cell _ (aq D)).ph F).1 _ (fq z.2.1 S))
 rw[ae u];by_cases R:x.op=20
 .rw[ao R];exact⟨by simp only[];omega,by simp only[];omega,c e⟩
 rw[ae R];by_cases S:x.op=21
 .rw[ao S];exact⟨by simp only[];omega,by simp only[];omega,c e⟩
 rw[ae S];by_cases T:x.op=22
 .rw[ao T];exact⟨by simp only[];omega,by simp only[];omega,c e⟩
 rw[ae T];by_cases X:x.op=9
 .rw[ao X];exact⟨by simp only[];omega,by simp only[];omega,Kw e (G _ _ _ aa)⟩
 rw[ae X];by_cases U:x.op=24
 .rw[ao U];exact⟨by simp only[];omega,by simp only[];omega,c (G _ _ _ aa)⟩
 rw[ae U];by_cases z:x.op=11
 .rw[ao z];refine⟨?_,by simp only[];omega,Kw e (G _ _ _ λw b=>?_)⟩
  .have:=NL s.heap (aF f.ak (aF x.args 0));simp only[];omega
  .rcases List.mem_append.1 b with b|b
   .obtain⟨E,_⟩:=Z.apply z;let⟨D,F⟩:=bP E;exact ab (((C.ok.heap.cell _ (aq D)).ph F).1 _ b)
   .simp at b;subst b;exact t _
 rw[ae z];split
 .exact⟨by simp only[];omega,by simp only[];omega,aN⟩
 .rename_i D E;refine⟨by simp only[];omega,by simp only[];omega,λq d=>?_⟩;have F:D∈k:=List.mem_of_getLast? E;rcases List.mem_append.1 d with d|d
  .exact yv q ((List.dropLast_sublist k).subset d)
  .simp at d;subst d;intro w b;rcases pU b with rfl|b
   .exact t _
   .exact yv D F w b
def VC(h:cW a s)(c:Sm n s)(l:n<=900000000):Sm (n+1) (j7 a s):=by
 have b:Sm (n+1) s:=⟨by have:=c.heap;omega,oh c.aU,c.uQ⟩;by_cases d:s.cw=3
 .let⟨g,f,e⟩:=h.split d;have k:s.an.getLast?=some f:=by rw[e];simp
  have j:s.an.dropLast=g:=by rw[e];simp
  have C:zE a s g f (cR a f):=⟨h,d,e,rfl,c.uQ⟩;unfold j7;rw[ae (by simpa using d),k,j];simp only[];split
  .exact⟨b.heap,b.aU,b.uQ⟩
  split
  .rename_i i;exact Ro C c l _ i
  .exact⟨b.heap,b.aU,b.uQ⟩
 .rw[th d];exact b
def wZ{a:cV}:∀(k:Nat){s:St}{n:Nat},cW a s->Sm n s->n+k<=900000000->Sm (n+k) (aE a k s)
 |0,s,n,_,b,_=>b
 |k+1,s,n,h,b,c=>by
  have:=wZ k (Sq h) (VC h b V) V;rw[aE];have e:n+(k+1)=n+1+k:=V;rw[e];exact this
def Qv(a:cV)(dX:Int):Sm 0 (me a dX):=⟨by simp[me],by simp[me],λg b w c=>by
 simp[me]at b;subst b;simp only[bY,eH]at c;rw[qQ c];omega⟩
end
section
variable{a:cV}
section
variable{c:E}{e:Nat->Nat}{m:E}{b:Nat}{d p aU g f:O}{s:St}
def Qt(L:vS c e m b bM (SB d p s aU g f) aU g f s.aU s.heap s.an)(F:fC c d p a)(w:cW a s){y:Nat}(E:Sm y s)(h:Nat)(K:h<=100000)(M:y<=500000000):
 aO cp 56 [vp b 0,vi h] m λI u=>(∃i:Int,I=vi i)/\yI c e m b d p (aE a h s) u:=by
 apply xU (b,0)
 refine⟨λo u=>∃k:Nat,o=k/\k<=h/\yI c e m b d p (aE a k s) u,λo _=>((h:Int) -o).toNat,⟨0,rfl,dQ _,e,aU,g,f,L,dx.aA _ L.new⟩,?_⟩
 rintro o N ⟨k,rfl,J,A,z,x,v,l,t1⟩
 have G:=wY k w
 have t:=wZ k w E V
 refine dit (λC=>?_) λC=>?_
 .refine⟨_,l.box.cq 2,λr=>?_,λr=>?_⟩
  .refine(Hp l F G t.uQ (oh t.heap) (oh t.aU)).mono ?_
   rintro _ j i
   have q:cG ((k:Int)+1)=((k+1:Nat):Int):=kQ (n:=h) V V
   rw[q]
   refine⟨⟨k+1,rfl,V,by rw[MB];exact i.from t1⟩,?_⟩
   show((h:Int) -((k+1:Nat):Int)).toNat<((h:Int) -(k:Int)).toNat
   omega
  .simp at r
   have q:aE a h s=aE a k s:=by
    have D:h=k+(h -k):=V;have B:∀(i j:Nat)(s:St),aE a (i+j) s=aE a j (aE a i s):=by
     intro i;induction i with
     |zero=>intro j s;simp[aE]
     |succ i H=>intro j s;rw[Nat.succ_add];simp only[aE];exact H j _
    rw[D,B,DU _ r]
   rw[q]
   exact⟨⟨_,rfl⟩,A,z,x,v,l,t1⟩
 .have:k=h:=V
  subst this
  exact⟨⟨_,rfl⟩,A,z,x,v,l,t1⟩
end
def Fj{m:E}{t C:O}(I:fC m t C a)(x:nF a)(dX:Int):
 aO cp 55 [.agg #[O.v t,O.v C],vi dX] m λS f=>∃aU l u,S=.agg #[vi 3,vi 0,vi 0,vi dX,O.v aU,O.v l,O.v u]/\J m f/\∃b1 b2 b3 b4 k,aU.cap=0/\aU.len=0/\l.cap=0/\l.len=0/\u=.mk b4 0 1 1/\
  rC m f b1 b2 b3 k (bY a 0 0 []).ak (bY a 0 0 []).aS (bY a 0 0 []).ba/\(b4≠b1/\b4≠b2/\b4≠b3/\m.size<=b4/\b4<f.size)/\cK f b4 dS [.i 0,.i 0,.i 0,.s (.mk b1 0 k k),.s (.mk b2 0 k k),.s (.mk b3 0 k k)]:=by
 apply zp
 simp -zeta only[aD,aC]
 intro g z A p r e
 have v:J m e:=((((((J.aA m).aL _).aL _).aL _).aL _).aL _).aL _
 have L:g.size=m.size+1:=by simp[g]
 have M:z.size=m.size+2:=by simp[z,L]
 have P:A.size=m.size+3:=by simp[A,M]
 have Q:p.size=m.size+4:=by simp[p,P]
 have R:r.size=m.size+5:=by simp[r,Q]
 have Y:e.size=m.size+6:=by simp[e,R]
 clear_value e
 have T:=x.ov.len
 let⟨q,n⟩:=cL a.cE 0
 have W:=(x.dD q (aq n)).ak
 have o:dR a 0=q:=by simp[dR,n]
 have B:∀b,ap e (.mk b 0 0 0) []:=λb=>⟨rfl,aN,aN,aN⟩
 refine(yB (I.ext v) (de 0) n V 0 (B p.size) (B r.size) bG rfl).mono ?_
 rintro _ c ⟨b1,b2,b3,rfl,N⟩
 have j:=N.ext
 have U:=N.lo
 refine⟨j.dz bG,_,_,_,_,_,_,rfl,?_⟩
 intro d s
 have w:J c d:=(J.aA c).aL _
 have Z:d.size=c.size+1:=by simp[d]
 have s9:s.size=d.size:=ax _ _ _ _
 have X:=j.size
 have K:cK d c.size dS [.i 0,.i 0,.i 0,.s (.mk b1 0 q.ak.toNat q.ak.toNat),.s (.mk b2 0 q.ak.toNat q.ak.toNat),.s (.mk b3 0 q.ak.toNat q.ak.toNat)]:=cK.push c _ _
 have i:=N.SK w
 have y:J m s:=(v.trans (j.trans w)).ai (show m.size<=g.size by omega) _ _
 have h:∀b,b≠g.size->s[b]? =d[b]? :=λb H=>bg _ _ _ _ H
 have G:(bY a 0 0 []).ak=[]++dt (q.ak.toNat -([]:List Int).length):=by simp[bY,o]
 have F:(bY a 0 0 []).aS=[]++dt (q.ak.toNat -([]:List Int).length):=by simp[bY,o,dP]
 have D:(bY a 0 0 []).ba=dt q.ak.toNat:=by simp[bY,o]
 refine⟨_,_,_,rfl,y,b1,b2,b3,c.size,q.ak.toNat,rfl,rfl,rfl,rfl,rfl,?_,V,K.congr (h _ V)⟩
 rw[G,F,D]
 exact⟨y,V,i.kr.congr (h _ V),i.ko.congr (h _ V),i.kh.congr (h _ V),N.len⟩
def Uz{m j g:E}{u:Nat}{Nj:List Ce}{aU i l:O}{dX:Int}{b1 b2 b3 b4 k e:Nat}(c:aU.cap=0/\aU.len=0/\i.cap=0/\i.len=0/\l=.mk b4 0 1 1)
 (N:rC m j b1 b2 b3 k (bY a 0 0 []).ak (bY a 0 0 []).aS (bY a 0 0 []).ba)(C:b4≠b1/\b4≠b2/\b4≠b3/\m.size<=b4/\b4<j.size)(B:cK j b4 dS [.i 0,.i 0,.i 0,.s (.mk b1 0 k k),.s (.mk b2 0 k k),.s (.mk b3 0 k k)])
 (d:J j g)(F:j.size<=e)(kb:cK g e u (Nj++[.i 3,.i 0,.i 0,.i dX,.s aU,.s i,.s l])):
 vS m (oJ (oJ (pZ (λ_=>0) b1 b2 b3 0) b4 4) e 1) g e u (Nj++[.i 3,.i 0,.i 0,.i dX,.s aU,.s i,.s l]) aU i l [] [] [bY a 0 0 []]:=by
 have D:=N.lo
 have A:J m g:=N.ext.trans d
 have G:=kb.lt
 have H:=N.ext.size
 have t:∀b,b≠e->b≠b4->(oJ (oJ (pZ (λ_=>0) b1 b2 b3 0) b4 4) e 1) b=pZ (λ_=>0) b1 b2 b3 0 b:=λb p q=>by rw[eX p,eX q]
 let⟨y,a2,a3⟩:=(N.SK d).qD (a:=λ_=>0) (g:=0)
 have conv:∀{v:Nat}{s:O}{w:List Ce},iR (pZ (λ_=>0) b1 b2 b3 0) g aB 1 v s w->s.D≠e->s.D≠b4->iR (oJ (oJ (pZ (λ_=>0) b1 b2 b3 0) b4 4) e 1) g aB 1 v s w:=λx p q=>x.eC (λ_=>rfl) (λ_=>t _ p q)
 refine⟨A,λb z=>?_,λb z=>?_,kb,fK _ _ _,⟨by simp[c.2.1],by rw[c.1,c.2.1];exact ad _,Or.inl c.1⟩,⟨[],⟨by simp[c.2.2.2.1],by rw[c.2.2.1,c.2.2.2.1];exact ad _,Or.inl c.2.2.1⟩,gV.nil _ _,XK.nil⟩,?_⟩
 .rw[t b V V];unfold pZ;rw[eX V,eX V,eX V]
 .rw[t b (oh d.size) (oh d.size)];unfold pZ;rw[eX (oh d.size),eX (oh d.size),eX (oh d.size)]
 .refine tv.tq (a:=[]) (f:=bY a 0 0 []) (r:=.mk b1 0 k k) (e:=.mk b2 0 k k) (h:=.mk b3 0 k k) (j:=[]) ⟨?_,rfl,aN,aN,conv y (by simp only[O.jJ];omega) (by simp only[O.jJ];omega),conv a2 (by simp only[O.jJ];omega) (by simp only[O.jJ];omega),conv a3 (by simp only[O.jJ];omega) (by simp only[O.jJ];omega)⟩
  rw[c.2.2.2.2]
  refine⟨rfl,ad _,Or.inr ⟨b4,1,[],rfl,?_,?_,rfl⟩⟩
  .rw[eX V,fK]
  .rw[eg];exact B.ext d
end
structure Exe where
 cw:Int
 value:Int
 bA:Int
 aU:List Int
 ok:Bool
section
variable{m:E}{s:O}{l:List Int}{h:List bK}{w:Int}{a:Nat}
def eO(c:ap m s l)(n:l.length<=1000000000):oN 26 [O.v s] m l:=by
 apply tR;have b:=c.len;refine⟨λh=>?_,λh=>?_⟩
 .cases s with
  |nil=>simp at b;have:l=[]:=List.length_eq_zero_iff.1 b.symm;subst this;exact⟨.nil,rfl,ig.nil _ _ _ _,J.aA _⟩
  |mk a o e d=>simp at h
  |zX a o d=>simp at h
 .intro d;have a:J m d:=(J.aA m).aL _;have f:ig m d aB 1 (.mk m.size 0 0 0) []:=ig.new (J.aA m) aB 1 [] 0 aN;refine ig.append (zs:=[.i 0]) (d:=l.map Ce.i) f a (by simp[b]) (c.ext a).Iv bG λr o a e g i j k=>⟨r,rfl,by simpa using a,e⟩
def sJ(g:ap m s l)(b:Int):aO cp 81 [O.v s,vi b] m λv i=>∃r:Int,v=vi r/\J m i/\((r= -1/\b∉l)\/(b∈l/\r=tD l b)):=by
 apply tT;have j:=g.len;refine dW (n:=l.length) (j▸g.gX) (λk i=>J m i/\b∉l.take k) ⟨J.aA _,aN⟩ ?_;rintro k u I μ t ⟨f,e⟩ p
 refine dit (λh=>?_) λh=>?_
 .let⟨x,d⟩:=cL l k;refine⟨V,V,x,by simpa using f.af (g.aF d),λc=>?_,λc=>p V _ ⟨f,?_⟩⟩
  .simp at c;subst c;refine⟨_,rfl,f,Or.inr ⟨aq d,?_⟩⟩;have:tD l b=k:=by
    unfold tD;rw[List.findIdx_eq (aw d)];refine⟨by have:=(List.getElem?_eq_some_iff.1 d).2;simp[this],λo q=>?_⟩;simp;intro a;apply e;rw[<-a];exact List.mem_take_iff_getElem.2 ⟨o,V,rfl⟩
   rw[this]
  .rw[aV d];simp at c;intro a;rcases List.mem_append.1 a with a|a
   .exact e a
   .simp at a;exact c a
 .rw[bZ V]at e;exact⟨_,rfl,f,Or.inl ⟨rfl,e⟩⟩
def ms(c:ap m s l)(n:Int):dy cp 138 [O.v s,vi n] m (n∈l):=by
 apply rQ;refine(sJ c n).mono ?_;rintro _ f ⟨r,rfl,d,h⟩;refine⟨_,rfl,eW ?_ d⟩;simp only[oK,ar];rcases h with⟨rfl,h⟩|⟨b,e⟩
 .exact⟨λa=>V,λa=>absurd a h⟩
 .exact⟨λ_=>b,λ_=>V⟩
def CG{t:O}{r:List Int}(d:ap m s l)(i:ap m t r):dy cp 141 [O.v s,O.v t] m (l=r):=by
 apply tS;have j:=d.len;have q:=i.len;refine⟨λh=>bX (λe=>by subst e;simp at h;omega) (J.aA _),λh=>?_⟩;simp at h;refine dW (n:=l.length) (j▸d.gX) (λk a=>J m a/\l.take k=r.take k) ⟨J.aA _,aN⟩ ?_;rintro k u I μ p ⟨b,g⟩ o
 refine⟨λh=>?_,λh=>iY (by simp at h;rwa[bZ V,bZ V]at g) b⟩;simp only[ar]at h;let⟨x,f⟩:=cL l k;let⟨y,c⟩:=cL r k;refine⟨V,V,x,by simpa using b.af (d.aF f),V,V,y,by simpa using b.af (i.aF c),λa=>bX (λe=>?_) b,λa=>o V _ ⟨b,?_⟩⟩
 .subst e;rw[f]at c;simp at c;simp at a;exact a c
 .rw[aV f,aV c,g];simp at a;rw[a]
def iE{a:O}(i:cU m a h)(u:w<=9223372036854775807):
 aO cp 136 [O.v a,vi w] m λv p=>∃(j:Int)(e:Bool),v=.tuple #[vi j,vb e]/\(e=true<->fQ h w)/\(e=true->j=ix w)/\J m p:=by
 apply Gm
 have k:=i.len
 have t:=i.gX
 refine⟨λc=>?_,λc=>?_⟩
 .simp at c
  have l:cG (w -1000)=w -1000:=aR V V
  have o:(ix w:Int)=w -1000:=by unfold ix;omega
  rw[l]
  refine⟨λg=>?_,λg=>?_⟩
  .simp at g
   let⟨f,b⟩:=cL h ((w -1000).toNat)
   obtain⟨r,s,n,_⟩:=i.aF b
   refine⟨V,V,f.aQ,n,_,_,rfl,?_,λ_=>o.symm,J.aA _⟩
   simp only[kU,ar]
   refine⟨λa=>⟨c,f,b,a⟩,λ⟨_,q,d,a⟩=>?_⟩
   unfold ix at d
   rw[b]at d;simp at d;subst d;exact a
  .simp at g
   refine⟨_,_,rfl,⟨sx,λ⟨_,f,b,_⟩=>?_⟩,sx,J.aA _⟩
   have:=aw b
   omega
 .simp at c
  exact⟨_,_,rfl,⟨sx,λk=>oh k.1⟩,sx,J.aA _⟩
def Lu{b:O}(f:af m a 8=some (O.v b))(g:cU m b h)(i:w<=9223372036854775807):dy cp 68 [vp a 0,vi w] m (fQ h w):=by
 apply ux (a,0);refine⟨b,f,(iE g i).mono ?_⟩;rintro _ k ⟨c,d,rfl,e,_,j⟩;exact⟨c,d,rfl,eW e j⟩
def Er(e:ap m s l)(q:l.length<=100000000):oN 142 [O.v s] m (lx l):=by
 apply yQ;have p:=e.len;refine eB (n:=l.length) V (λk s a=>J m a/\ig m a aB 1 s ((lx (l.take k)).map Ce.i)) ⟨J.aA _,by simpa[lx]using ig.nil m m aB 1⟩ ?_;rintro k s r I μ o ⟨b,a⟩ f
 refine dit (λh=>?_) λh=>?_
 .let⟨x,c⟩:=cL l k;refine⟨V,V,x,by simpa using b.af (e.aF c),λd=>?_,λg=>?_⟩
  .intro t;refine om a b (by have:=ou (l.take k);simp at this;omega) λv u i j=>f V _ _ ⟨j,?_⟩
   rw[aV c,pw];have:lx [x]=[x]:=by simp at d;simp[lx,d]
   rw[this];exact i
  .refine f V _ _ ⟨b,?_⟩
   rw[aV c,pw];have:lx [x]=[]:=by simp at g;simp[lx];omega
   rw[this,eg];exact a
 .rw[bZ V]at a;exact⟨s,rfl,a,b⟩
def yp(g:ap m s l):dy cp 70 [O.v s] m (SC l):=by
 apply Ek;refine(ji g 139 #[] #[] bn (λx=>x≠0) (λx _ i d=>?_)).then λb j f d=>⟨b,rfl,eW ?_ d⟩
 .simp only[eH,eg];apply Ad;exact eW aN (J.aA _)
 .have e:(!b)=true<->¬(b=true):=aN;rw[e,f];unfold SC;constructor
  .intro h n c;exact dE λa=>h ⟨n,c,a⟩
  .rintro h ⟨n,c,a⟩;exact a (h n c)
def we{am U:O}{b:cV}(ac:fC m am U b)(g1:af m a 1=some (O.v U)){x:Instr}(hc:zH b x){o j:O}(z:ap m o x.args)(aQ:x.args.length<=1000000)(an:(x.op=16\/x.op=17)->1<=x.args.length):
 aO cp 66 [vp a 0,xv x o j] m λaE T=>∃s l,aE=.tuple #[O.v s,O.v l]/\ap T s (bU b x)/\ap T l (if x.op=9\/x.op=24 then fJ b x 0 x.args else[])/\J m T/\(s=.nil\/s.D=o.D\/m.size<=s.D)/\(l=.nil\/m.size<=l.D):=by
 apply sT (a,0)
 simp -zeta only[aD,aC]
 intro c
 have v:J m c:=(J.aA m).aL _
 have Q:∀p∈[m.size],p<c.size:=by simp[c]
 have s1:c.size=m.size+1:=by simp[c]
 have ab:=z.len
 have aI:=z.cap
 have N:ap c .nil []:=⟨rfl,aN,aN,aN⟩
 clear_value c
 refine⟨λe=>?_,λq=>⟨λe=>?_,λt=>⟨λe=>?_,λr=>?_⟩⟩⟩
 .simp only[bT,aG]at e
  refine⟨o,.nil,rfl,?_,by rw[ae V];exact N,v,Or.inr (Or.inl rfl),Or.inl rfl⟩
  unfold bU;rw[ao V];exact z.ext v
 .simp only[bT,aG]at e
  simp only[bu,aj]at q
  refine⟨V,V,V,_,.nil,rfl,?_,by rw[ae V];exact N,v,Or.inr (Or.inl ?_),Or.inl rfl⟩
  .unfold bU;rw[ae V,ao e]
   exact eV.TS (z.ext v) (an e)
  .cases o with
   |nil=>simp at ab;omega
   |zX p d f=>simp at ab;omega
   |mk p d l f=>rfl
 .simp only[bT,aG]at e
  simp only[bu,aj]at q t
  let⟨h0,aR,K⟩:=hc e
  have aP:=ac.cE.len
  have aM:=aw K
  have aA:∃(w:O->O->Int->E->Prop)(μ0:O->O->Int->E->Nat),w O.nil O.nil (0:Int) c/\(∀(ak:O)(cY:O)(i:Int)(d:E),w ak cY i d->∃k:Nat,i=k/\k<=x.args.length/\J c d/\ig c d aB 1 ak ((jB b x k).map Ce.i)/\ig c d aB 1 cY ((fJ b x 0 (x.args.take k)).map Ce.i)/\(ak≠.nil->cY≠.nil->ak.D≠cY.D))/\
   (∀(ak cY:O)(k:Nat)(d:E),k<=x.args.length->J c d->ig c d aB 1 ak ((jB b x k).map Ce.i)->ig c d aB 1 cY ((fJ b x 0 (x.args.take k)).map Ce.i)->(ak≠.nil->cY≠.nil->ak.D≠cY.D)->w ak cY k d)/\(∀o p i m,μ0 o p i m=((x.args.length:Int) -i).toNat):=
   ⟨λak cY i d=>∃k:Nat,i=k/\k<=x.args.length/\J c d/\ig c d aB 1 ak ((jB b x k).map Ce.i)/\ig c d aB 1 cY ((fJ b x 0 (x.args.take k)).map Ce.i)/\(ak≠.nil->cY≠.nil->ak.D≠cY.D),λ_ _ i _=>((x.args.length:Int) -i).toNat,
    ⟨0,rfl,dQ _,J.aA _,by simpa[jB,iP]using ig.nil c c aB 1,by simpa[fJ]using ig.nil c c aB 1,λh=>absurd rfl h⟩,λ_ _ _ _ h=>h,λak cY k d f g u y A=>⟨k,rfl,f,g,u,y,A⟩,λ_ _ _ _=>rfl⟩
  let⟨w,μ0,aq,ay,ag,hμ⟩:=aA
  refine⟨w,μ0,aq,?_⟩
  intro ak cY i d hI
  obtain⟨k,rfl,hk,aa,o1,o2,I⟩:=ay ak cY i d hI
  have L:=v.trans aa
  refine dit (λh=>?_) λh=>?_
  .let⟨y,R⟩:=cL x.args k
   obtain⟨a',l',c',aH,av,aJ,k0,k1,_⟩:=(ac.ext L).cE.aF K
   have ai:(x.args.take k).length=k:=bG
   have al:jB b x (k+1)=jB b x k++iP b x k [y]:=by
    unfold jB;rw[aV R,vL,ai,bW]
   have ah:fJ b x 0 (x.args.take (k+1))=fJ b x 0 (x.args.take k)++fJ b x k [y]:=by
    rw[aV R,rm,ai,bW]
   have aK:(jB b x k).length<=k:=bJ (uf _ _ _ _) bG
   have aL:(fJ b x 0 (x.args.take k)).length<=k:=by
    have:∀(l:List Int)(j:Nat),(fJ b x j l).length<=l.length:=by
     intro l;induction l with
     |nil=>intro j;exact ad _
     |cons aF l S=>intro j;have:=S (j+1);simp only[fJ];split<;>simp<;>omega
    have:=this (x.args.take k) 0;omega
   have Z:cG ((k:Int)+1)=((k+1:Nat):Int):=kQ (n:=x.args.length) V V
   refine⟨V,V,y,by simpa using L.af (z.aF R),U,L.af g1,h0,V,l',k1,(ms av _).aJ aa Q λp M hb u F=>⟨p,rfl,λau=>?_,λar=>?_⟩⟩
   .have A:=(LA K k).2 (hb.1 au)
    intro g
    have s4:g.size=M.size+1:=by simp[g]
    have P:=o1.ext u
    have ax:cY.len=(fJ b x 0 (x.args.take k)).length:=by have:=o2.len;simp at this;omega
    refine ig.append (zs:=[.i 0]) (d:=[.i y]) ((o2.ext u).ext (J.push _ _)) (F.aL _) rfl (cK.push M _ _).iL bG λs m5 W D q3 q4 X Y=>⟨J.tQ (F.aL _) D Q,?_⟩
    rw[Z]
    have az:=u.size
    refine⟨ag _ _ _ _ V D ?_ ?_ ?_,by rw[hμ,hμ];omega⟩
    .rw[al]
     have:iP b x k [y]=[]:=by simp only[iP];rw[ao A]
     rw[this,eg]
     rcases P.lt with e|e
     .subst e;exact⟨P.len,Or.inl rfl⟩
     .refine P.congr ?_
      rw[X _ (show _<g.size by omega) (λC=>?_),na,ae V]
      by_cases B:ak=.nil
      .subst B
       rcases o2.D with r|r
       .exact absurd r C
       .simp;omega
      .exact I B C
    .rw[ah]
     have:fJ b x k [y]=[y]:=by simp only[fJ];rw[ao A]
     rw[this];simpa using W
    .intro G H
     rcases Y with⟨_,e⟩|⟨q,t,_⟩|e
     .exact absurd e H
     .rw[t];exact I G q
     .rw[e]
      rcases P.lt with f|f
      .exact absurd f G
      .show ak.D≠g.size;omega
   .have A:¬nM b x k=true:=λhh=>fb hb ar ((LA K k).1 hh)
    intro g
    have s4:g.size=M.size+1:=by simp[g]
    have P:=o2.ext u
    have ax:ak.len=(jB b x k).length:=by have:=o1.len;simp at this;omega
    refine ig.append (zs:=[.i 0]) (d:=[.i y]) ((o1.ext u).ext (J.push _ _)) (F.aL _) rfl (cK.push M _ _).iL bG λs m5 W D q3 q4 X Y=>⟨J.tQ (F.aL _) D Q,?_⟩
    rw[Z]
    have az:=u.size
    refine⟨ag _ _ _ _ V D ?_ ?_ ?_,by rw[hμ,hμ];omega⟩
    .rw[al]
     have:iP b x k [y]=[y]:=by simp only[iP];rw[ae A]
     rw[this];simpa using W
    .rw[ah]
     have:fJ b x k [y]=[]:=by simp only[fJ];rw[ae A]
     rw[this,eg]
     rcases P.lt with e|e
     .subst e;exact⟨P.len,Or.inl rfl⟩
     .refine P.congr ?_
      rw[X _ (show _<g.size by omega) (λC=>?_),na,ae V]
      by_cases B:cY=.nil
      .subst B
       rcases o1.D with r|r
       .exact absurd r C
       .simp;omega
      .exactλe5=>I C B e5.symm
    .intro G H
     rcases Y with⟨_,e⟩|⟨q,t,_⟩|e
     .exact absurd e G
     .rw[t];exact I q H
     .rw[e]
      rcases P.lt with f|f
      .exact absurd f H
      .show g.size≠cY.D;omega
  .have g:x.args.take k=x.args:=bZ V
   rw[g]at o2
   unfold jB at o1
   rw[g]at o1
   have A:=uf b x x.args 0
   have u:∀(l:List Int)(j:Nat),(fJ b x j l).length<=l.length:=by
    intro l;induction l with
    |nil=>intro j;exact ad _
    |cons aF l S=>intro j;have:=S (j+1);simp only[fJ];split<;>simp<;>omega
   have y:=u x.args 0
   refine⟨ak,cY,rfl,?_,?_,L,?_,?_⟩
   .unfold bU;rw[ae V,ae V,ao e];exact ap.gC o1 V
   .rw[ao e];exact ap.gC o2 V
   .rcases o1.D with f|f
    .exact Or.inl f
    .exact Or.inr (Or.inr V)
   .rcases o2.D with f|f
    .exact Or.inl f
    .exact Or.inr V
 .simp only[bu,aj]at q t r
  refine⟨.nil,.nil,rfl,?_,by rw[ae V];exact N,v,Or.inl rfl,Or.inl rfl⟩
  unfold bU;rw[ae V,ae V,ae V];exact N
end
section
variable{b:E}{i e:Nat}{d p g k h a j:O}{c:cV}{s:St}{f:aY}{x:Instr}
def Ij:∀(l:List (Int×Int))(k v j:Int),vz (JX l k v) j=if j=k then v else vz l j
 |[],k,v,j=>by simp[JX,vz]
 |(a,c)::g,k,v,j=>by
  simp only[JX];split
  .rename_i h;subst h;simp only[vz];split<;>simp_all
  .rename_i h;simp only[vz];split
   .rename_i b;subst b;rw[ae (λe=>h e.symm)]
   .exact Ij g k v j
def Qc(l:List Int)(k:Nat)(a:Nat):eD (l.take k) a<=eD l a:=by
 have:eD l a=eD (l.take k) a+eD (l.drop k) a:=by rw[<-mq,dv]
 have:=iO (l.drop k) a;omega
def wm{m:O}{h:List bK}(Y:af b i 8=some (O.v m))(L:cU b m h){t:Nat->Int}(H:fL h t){c:bK}(W:c∈h){f:O}(X:ap b f c.aH)(aB:h.length<=2000000000):
 dy cp 140 [vp i 0,.agg #[vi c.aQ,vi c.kE,O.v f]] b (c.aQ=1\/lJ h c.aH):=by
 apply sW (i,0)
 unfold nW
 simp -zeta only[aD,aC]
 intro e
 have z:J b e:=(J.aA b).aL _
 have s1:e.size=b.size+1:=by simp[e]
 have Z:∀g∈[b.size],g<e.size:=by simp[s1]
 have az:=(H.cell c W).fl
 have aA:=X.len
 have aE:=L.len
 clear_value e
 refine⟨λu=>iY (Or.inl (by simpa using u)) z,λu=>?_⟩
 simp only[aj]at u
 intro B
 have ah:J e B:=(J.aA e).aL _
 have ar:DL B e.size []:=⟨#[],0,by simp[B],rfl⟩
 clear_value B
 refine dW (n:=c.aH.length) V (λk d=>J e d/\∃l,DL d e.size l/\(∀a:Nat,vz l a=eD (c.aH.take k) a)/\∀w∈c.aH.take k,1000<=w->(aM h w).aQ+eD (c.aH.take k) (ix w)<=999999) ⟨ah,[],ar,λa=>by simp[vz,eD],aN⟩ ?_
 rintro k m3 ay μ hk ⟨D,l,ab,N,x⟩ ag
 have A:=z.trans D
 refine dit (λh2=>?_) λh2=>?_
 .let⟨w,o⟩:=cL c.aH k
  have ac:1000<=w->fQ h w:=λm=>H.field W (aq o) m
  have ax:w<=9223372036854775807:=by
   rcases dT (1000<=w)with q|q
   .have:=aw (bP (ac q)).1;unfold ix at this;omega
   .omega
  refine⟨V,V,w,by simpa using A.af (X.aF o),m,A.af Y,(iE (cU.ext A L) ax).aJ D Z ?_⟩
  rintro _ m4 ⟨a,g,rfl,v,ai,F⟩
  have p:=D.trans F
  have aL:=z.trans p
  have an:e.size<m3.size:=by obtain⟨T,S,G,_⟩:=ab;exact(Array.getElem?_eq_some_iff.1 G).1
  have P:DL m4 e.size l:=by obtain⟨T,S,G,r⟩:=ab;exact⟨T,S,by rw[F.same _ an];exact G,r⟩
  have j:∀a:Nat,eD (c.aH.take (k+1)) a=eD (c.aH.take k) a+(if w=1000+(a:Int)then 1 else 0):=λa=>by
   rw[aV o,mq];simp[eD]
  refine⟨F,a,g,rfl,λU=>?_,λak=>?_⟩
  .have M:=v.1 U
   have I:=ai U
   subst I
   have ad:=iv M.1
   have aJ:=iO (c.aH.take k) (ix w)
   have aI:=kL (c.aH.take k) (ix w)
   have aF:(c.aH.take k).length<=3:=bG
   have e1:cG (vz l (ix w)+1)=eD (c.aH.take (k+1)) (ix w):=by
    rw[N,j,ao ad.symm];exact aR V V
   refine⟨l,P,l,P,?_⟩
   rw[e1]
   intro m5 aa av am
   have E:J e m5:=⟨by rw[av];exact p.size,λg v=>by rw[am g V,p.same g v]⟩
   have R:=z.trans E
   let⟨K,aK⟩:=bP M
   obtain⟨f5,_,k0,_⟩:=(cU.ext R L).aF K
   have aG:=aw K
   have aH:=(H.cell _ (aq K)).hi
   have al:vz (JX l (ix w) (eD (c.aH.take (k+1)) (ix w))) (ix w)=eD (c.aH.take (k+1)) (ix w):=by rw[Ij,ao rfl]
   have au:=j (ix w)
   rw[ao ad.symm]at au
   have e2:cG ((aM h w).aQ+eD (c.aH.take (k+1)) (ix w))=(aM h w).aQ+eD (c.aH.take (k+1)) (ix w):=aR V V
   refine⟨J.tQ p E Z,m,R.af Y,V,V,_,by simpa using k0,_,aa,trivial,trivial,?_⟩
   rw[al,e2]
   refine⟨λr=>bX (λs=>?_) R,λr=>ag V _ ⟨E,_,aa,λa=>?_,λC d y=>?_⟩⟩
   .rcases s with s|s
    .exact u s
    .have:=s w (aq o) M.1
     have:=Qc c.aH (k+1) (ix w)
     simp at r;omega
   .rw[Ij]
    by_cases I:(a:Int)=ix w
    .have:a=ix w:=V
     subst this;rw[ao rfl]
    .rw[ae I,N,j,ae V];omega
   .by_cases Q:C=w
    .subst Q;simp at r;omega
    .rw[j,ae (λt=>Q (by rw[iv y]at t;exact t.symm))]
     rw[aV o]at d
     rcases List.mem_append.1 d with d|d
     .have:=x C d y;omega
     .simp at d;exact absurd d Q
  .have s:¬fQ h w:=fb v ak
   have E:w<1000:=by
    rcases dT (1000<=w)with q|q
    .exact absurd (ac q) s
    .omega
   refine ag V _ ⟨p,l,P,λa=>by rw[N,j,ae V];omega,λC d y=>?_⟩
   rw[j,ae V]
   rw[aV o]at d
   rcases List.mem_append.1 d with d|d
   .have:=x C d y;omega
   .simp at d;omega
 .rw[bZ V]at x
  exact iY (Or.inr x) A
structure FP(b:E)(fb e:Nat)(f:aY)(g k h:O):Prop where
 g3:af b fb (e+3)=some (O.v g)
 g4:af b fb (e+4)=some (O.v k)
 g5:af b fb (e+5)=some (O.v h)
 ak:ap b g f.ak
 aS:ap b k f.aS
 ba:ap b h f.ba
def FP.ext{b c:E}{fb e:Nat}{f:aY}{g k h:O}(F:FP b fb e f g k h)(a:J b c):FP c fb e f g k h:=⟨a.af F.g3,a.af F.g4,a.af F.g5,F.ak.ext a,F.aS.ext a,F.ba.ext a⟩
def Ie{fb:Nat}{aU K fr:O}(l:RV b i 3 d p aU K fr c s)(ai:af b i 2=some (vi (cv c))){fs:List aY}(C:zE c s fs f x)(M:FP b fb e f g k h)(v:ap b a x.args)(aI:x.op=11)(aj:s.heap.length<=2000000000):
 dy cp 71 [vp i 0,vp fb e,xv x a j] b (vT c s.heap (aF f.ak (aF x.args 0))):=by
 apply sV (i,0) (fb,e)
 simp -zeta only[aD,aC]
 intro u
 have r:J b u:=(J.aA b).aL _
 have s1:u.size=b.size+1:=by simp[u]
 clear_value u
 have hl:∀B∈[b.size],B<u.size:=by simp[s1]
 have au:=v.len
 have aL:=M.ak.len
 have h2:=C.lL.2.2.1 V
 have q:0<=aF x.args 0/\aF x.args 0<f.ak.length:=C.arg _ (fq V V)
 have an:=C.F.pY q.1 q.2 C.MV
 have N:=M.ext r
 have S:=C.ok.heap
 have X:=C.ok.fm
 refine⟨K,r.af l.rG,g,N.g3,V,V,_,(v.ext r).pO V V,q.1,V,_,N.ak.pO q.1 q.2,?_⟩
 generalize aF f.ak (aF x.args 0)=w at*
 refine(iE (cU.ext r l.heap) an.2).aJ (J.aA _) hl ?_
 rintro _ L ⟨aa,B,rfl,T,ag,E⟩
 have z:=r.trans E
 refine⟨E,aa,B,rfl,λah=>bX (λm=>nb T ah m.1) z,λU=>?_⟩
 have Y:=yb T U
 have v:=ag (by simpa using U)
 subst v
 let⟨y,al⟩:=bP Y
 have R:=S.cell _ (aq y)
 have aO:=(R.ph al).2
 have aH:=aw y
 have aE:=l.heap.len
 let⟨D,W,k0,k1,k2⟩:=(cU.ext z l.heap).aF y
 refine⟨K,z.af l.rG,V,V,_,by simpa using k0,_,by simpa using k1,D,by simpa using k2,?_⟩
 intro m3 o
 have P:J L o:=((J.aA L).aL _).ai (ad _) _ _
 have s4:o.size=L.size+1:=by simp[o,m3,ax]
 clear_value o
 have n:=z.trans P
 have ar:(eU c.br).length<=12:=by
  have:=rE X.ov.types c.br.length;rw[nk _ _ (ad _)]at this;exact this
 have az:(cv c)=((eU c.br).length:Int):=rfl
 have aK:=l.fm.cE.len
 have aJ:=X.ov.len
 have e1:cG ((aM s.heap w).kE -cv c)=(aM s.heap w).kE -cv c:=aR V V
 refine⟨cv c,n.af ai,?_⟩
 rw[e1]
 refine⟨λF=>bX (λm=>by have:=m.2.1;simp at F;omega) n,λF=>⟨p,n.af l.cE,λG=>bX (λm=>by have:=m.2.2.1;simp at G;omega) n,λG=>?_⟩⟩
 simp at F G
 let⟨ao,Z⟩:=cL c.cE (((aM s.heap w).kE -cv c).toNat)
 have am:dR c ((aM s.heap w).kE -cv c)=ao:=by simp[dR,Z]
 let⟨a',l',c',ac,ak,ay,j0,j1,j2,j3,j4⟩:=(l.fm.ext n).cE.aF Z
 have av:=ac.len
 have aG:=ak.len
 have aB:=W.len
 have aA:=R.fl
 refine⟨p,n.af l.cE,V,V,a',j0,l',j1,_,j2,_,j3,c',j4,?_⟩
 intro m5 A
 have Q:J o A:=((J.aA o).aL _).ai (ad _) _ _
 have s6:A.size=o.size+1:=by simp[A,m5,ax]
 clear_value A
 have t:=n.trans Q
 have e3:cG ((D.len:Int)+1)=(D.len:Int)+1:=aR V V
 rw[e3]
 unfold vT
 rw[am]
 have aN:=E.size
 refine⟨λH=>⟨λI=>?_,λI=>bX (λm=>by have:=m.2.2.2.1;simp at I;omega) t⟩,λH=>bX (λm=>by have:=m.2.2.2.2.1;simp at H;omega) t⟩
 simp at H I
 refine(wm (t.af l.rG) (cU.ext t l.heap) S (aq y) (W.ext (P.trans Q)) aj).aJ (J.aA _) bG λb2 m7 ae ab _=>⟨b2,rfl,eW (ae.trans ?_) (t.trans ab)⟩
 exact⟨λhs=>⟨Y,V,V,V,V,hs⟩,λm=>m.2.2.2.2.2⟩
def Ep{fb:Nat}{aU hp fr:O}(A:RV b i 3 d p aU hp fr c s){fs:List aY}(C:zE c s fs f x)(H:FP b fb e f g k h)(L:ap b a x.args)(aL:x.op=14\/x.op=19\/x.op=21\/x.op=16\/x.op=17)(aJ:s.heap.length<=2000000000):
 dy cp 72 [vp i 0,vp fb e,xv x a j] b ((x.op=14->fQ s.heap (aF f.ak (aF x.args 0))/\(aM s.heap (aF f.ak (aF x.args 0))).aQ<999999)/\(x.op=19->fQ s.heap (aF f.ak (aF x.args 0))/\x.bS<(aM s.heap (aF f.ak (aF x.args 0))).aH.length)/\
  (x.op=21->fQ s.heap (aF f.ak (aF x.args 0))/\(aM s.heap (aF f.ak (aF x.args 0))).kE∈cB c.br x.bS)/\((x.op=16\/x.op=17)->Cd s.heap f x)):=by
 apply rH (i,0) (fb,e)
 simp -zeta only[aD,aC]
 intro Q
 have N:J b Q:=(J.aA b).aL _
 have s1:Q.size=b.size+1:=by simp[Q]
 clear_value Q
 have hl:∀B∈[b.size],B<Q.size:=by simp[s1]
 have a0:=L.len
 have aZ:=L.cap
 have a9:=H.ak.len
 have a3:=H.ba.len
 have h4:=C.lL
 have a6:=C.Gu
 have aK:1<=x.args.length:=V
 have aT:=h4.1
 clear h4
 have D:0<=aF x.args 0/\aF x.args 0<f.ak.length:=C.arg _ (fq V V)
 have aN:=C.F.pY D.1 D.2 C.MV
 have F1:=H.ext N
 have hI:=C.ok.heap
 have aE:Cd s.heap f x<->(fQ s.heap (aF f.ak (aF x.args 0))/\lx (aM s.heap (aF f.ak (aF x.args 0))).aH=cQ f (x.args.drop 1)/\((aM s.heap (aF f.ak (aF x.args 0))).aQ=1\/lJ s.heap (aM s.heap (aF f.ak (aF x.args 0))).aH)/\(x.op=17->aF f.ba (aF x.args 0)=0)):=QH
 rw[aE]
 refine⟨hp,N.af A.rG,g,F1.g3,V,V,_,(L.ext N).pO V V,D.1,V,_,F1.ak.pO D.1 D.2,?_⟩
 generalize aF f.ak (aF x.args 0)=w at*
 refine(iE (cU.ext N A.heap) aN.2).aJ (J.aA _) hl ?_
 rintro _ E ⟨ar,B,rfl,T,aH,Z⟩
 have X:=N.trans Z
 refine⟨Z,ar,B,rfl,λaI=>bX (λu=>?_) X,λaj=>?_⟩
 .have q:=nb T aI
  rcases aL with l|l|l|l
  .exact q (u.1 l).1
  .exact q (u.2.1 l).1
  .exact q (u.2.2.1 l).1
  .exact q (u.2.2.2 l).1
 have G:=yb T aj
 have aG:=aH (by simpa using aj)
 subst aG
 let⟨W,a8⟩:=bP G
 have ai:=hI.cell _ (aq W)
 have a7:=aw W
 have a4:=A.heap.len
 let⟨Y,ae,k0,k1,k2⟩:=(cU.ext X A.heap).aF W
 refine⟨hp,X.af A.rG,V,V,_,by simpa using k0,_,by simpa using k1,Y,by simpa using k2,?_⟩
 intro m3 z
 have aa:J E z:=((J.aA E).aL _).ai (ad _) _ _
 have s4:z.size=E.size+1:=by simp[z,m3,ax]
 have kB:af z E.size 1=some (vi (aM s.heap w).kE):=(cK.ai (m:=m3) (o:=0) (r:=[.i (aM s.heap w).aQ,.i (aM s.heap w).kE,.s Y]) (cK.push E _ _)).cq 1
 clear_value z
 have y:=X.trans aa
 have a_:=Z.size
 have F:∀B∈[E.size,b.size],B<z.size:=bG
 have a2:=ae.len
 refine⟨λl=>?_,λau=>⟨λl=>?_,λav=>⟨λl=>?_,λay=>?_⟩⟩⟩
 .simp at l
  refine eW ?_ y
  simp
  exact⟨λt=>⟨λ_=>⟨G,t⟩,λq=>V,λq=>V,λq=>V⟩,λt=>(t.1 l).2⟩
 .simp at l
  refine eW ?_ y
  simp
  exact⟨λt=>⟨λq=>V,λ_=>⟨G,V⟩,λq=>V,λq=>V⟩,λt=>oh ((t.2.1 l).2)⟩
 .simp at l
  refine⟨d,y.af A.br,(tE (A.fm.ext y).br C.ok.fm.ov.types _).aJ (J.aA _) F ?_⟩
  rintro _ m5 ⟨I,rfl,K,v⟩
  refine⟨v,I,rfl,v.dg kB,(ms K _).aJ v F λb2 m6 U ac ab=>⟨b2,rfl,eW (U.trans ?_) (y.trans ab)⟩⟩
  exact⟨λt=>⟨λq=>V,λq=>V,λ_=>⟨G,t⟩,λq=>V⟩,λt=>(t.2.2.1 l).2⟩
 .simp at au av ay
  have R:x.op=16\/x.op=17:=V
  have e1:(Int.toNat (1:Int))=1:=rfl
  have e2:(Int.toNat (a.len:Int))=a.len:=V
  rw[e1,e2]
  have al:=Vl (L.ext y) aK
  have a5:=al.len
  have a1:(x.args.drop 1).length<=4:=bG
  refine⟨V,V,V,?_⟩
  refine eB (n:=(x.args.drop 1).length) V (λah s' I=>J z I/\ig z I aB 1 s' ((cQ f ((x.args.drop 1).take ah)).map Ce.i)) ⟨J.aA _,by simpa[cQ]using ig.nil z z aB 1⟩ ?_
  rintro ah s' m5 aS μ hk ⟨v,o5⟩ aQ
  have aP:=y.trans v
  refine dit (λt=>?_) λt=>?_
  .let⟨S,I⟩:=cL (x.args.drop 1) ah
   have K:=C.arg S (xe (aq I))
   have M:=H.ext aP
   refine⟨V,V,S,by simpa using(al.ext v).aF I,g,M.g3,K.1,V,_,M.ak.pO K.1 K.2,?_⟩
   intro m6
   refine om o5 v (by simp[cQ];omega) λag m7 q1 P=>⟨J.tQ (v.aL _) P F,aQ V _ _ ⟨P,?_⟩⟩
   rw[aV I]
   simpa[cQ]using q1
  .rw[bZ V]at o5
   have i5:ap m5 s' (cQ f (x.args.drop 1)):=ap.gC o5 (by simp[cQ];omega)
   refine(Er (ae.ext (aa.trans v)) (oh ai.fl)).aJ (O6 (ou (aM s.heap w).aH) ai.fl) (λB T=>v.lt (F B T)) λps m6 o6 i6 ac=>⟨ps,rfl,?_⟩
   have ab:=v.trans ac
   refine(CG i6 (i5.ext ac)).aJ ab F λb2 m7 U aW S=>⟨b2,rfl,λh8=>bX (λu=>nb U h8 (u.2.2.2 R).2.1) (y.trans S),λh8=>?_⟩
   have ak:=yb U h8
   have P:=y.trans S
   have ao:aO cp 140 [vp i 0,.agg #[vi (aM s.heap w).aQ,vi (aM s.heap w).kE,O.v Y]] m7 λaR am=>eF [E.size,b.size] m7 am/\∃an:Bool,aR=vb an/\((an=true<->((aM s.heap w).aQ=1\/lJ s.heap (aM s.heap w).aH))/\J b am):=
    (wm (P.af A.rG) (cU.ext P A.heap) hI (aq W) (ae.ext (aa.trans S)) aJ).aJ S F λb3 m8 M aX aA=>⟨b3,rfl,M,y.trans aA⟩
   have F7:=H.ext P
   have az:aF x.args 0<f.ba.length:=V
   refine⟨λI=>⟨h,F7.g5,V,V,_,(L.ext P).pO V V,D.1,V,_,F7.ba.pO D.1 az,λK=>bX (λu=>?_) P,λK=>ao.mono ?_⟩,λI=>ao.mono ?_⟩
   .simp at I K;exact K ((u.2.2.2 R).2.2.2 I)
   .rintro _ m8 ⟨hs,b3,rfl,M,ag⟩
    refine⟨hs,b3,rfl,eW (M.trans ?_) ag⟩
    simp at K
    exact⟨λhf=>⟨λq=>V,λq=>V,λq=>V,λ_=>⟨G,ak,hf,λ_=>K⟩⟩,λu=>(u.2.2.2 R).2.2.1⟩
   .rintro _ m8 ⟨hs,b3,rfl,M,ag⟩
    refine⟨hs,b3,rfl,eW (M.trans ?_) ag⟩
    simp at I
    exact⟨λhf=>⟨λq=>V,λq=>V,λq=>V,λ_=>⟨G,ak,hf,λq=>absurd q I⟩⟩,λu=>(u.2.2.2 R).2.2.1⟩
end
section
variable{b:E}{c:Nat}{a:aY}{d e h:O}
def vm(ak:List Int):∀(b a aS:List Int),bC ak aS (b++a)=bC ak (bC ak aS b) a
 |[],a,aS=>rfl
 |y::b,a,aS=>by simp only[df,bC,vm ak b a]
def Nb{f fb:Nat}(i:af b f 0=some (vp fb c))(F:FP b fb c a d e h){x:Int}(g:0<=x/\x<a.ak.length):dy cp 69 [vi x,vp f 0] b (1000<=aF a.ak x):=by
 apply vw (f,0);have j:=F.ak.len;exact⟨(fb,c),i,d,F.g3,g.1,V,_,F.ak.pO g.1 g.2,eW aN (J.aA _)⟩
def P8{mb fb:Nat}{a5 bp aU u fr:O}{g:cV}{N:St}(R:RV b mb 3 a5 bp aU u fr g N)(bc:af b mb 2=some (vi (cv g))){fs:List aY}{x:Instr}(C:zE g N fs a x){au bl:O}(Q:FP b fb c a d e h)(Z:ap b au x.args)(a2:N.heap.length<=2000000000):
 dy cp 29 [vp mb 0,vp fb c,xv x au bl] b (lA g N a x (bC a.ak a.aS (bU g x))):=by
 apply xz (mb,0) (fb,c)
 simp -zeta only[aD,aC]
 intro m1 L
 have w:J b L:=((J.aA b).aL _).aL _
 have s1:m1.size=b.size+1:=by simp[m1]
 have s2:L.size=b.size+2:=by simp[L,s1]
 have P:∀j∈[m1.size,b.size],j<L.size:=bG
 have kP:af L b.size 0=some (vp fb c):=((cK.push b [.p fb c] _).ext (J.push m1 _)).cq 0
 clear_value L
 have bt:=Z.len
 have bK:=Q.ak.len
 have bF:=Q.aS.len
 have bw:=Q.ba.len
 have bA:=C.Gu
 have hd:=C.dst
 have bf:=C.ZG
 refine⟨e,w.af Q.g4,(eO (Q.aS.ext w) V).aJ V P λB m3 oq iq aI=>⟨B,rfl,?_⟩⟩
 have ay:=iq.len
 have aL:=w.trans aI
 refine(we (R.fm.ext aL) (aL.af R.cE) C.call (Z.ext aL) (oh C.lL.1) C.lL.2.2.2.1).aJ aI P ?_
 rintro _ U ⟨rs,ls,rfl,aA,aO,aJ,a4,a3⟩
 have a9:=aI.trans aJ
 have bo:=oq.ext aJ
 refine⟨aJ,rs,ls,rfl,?_⟩
 have bM:=Jm g x
 have bs:=C.lL.1
 have bL:=aA.len
 have ba:=C.KD
 have bi:∀ac∈a.aS,0<=ac:=λac T=>(C.O8 ac T).1
 have bI:L.size<=B.D:=by
  rcases oq.D with k|k
  .subst k;simp at ay;omega
  .exact k
 have bJ:B.D<m3.size:=by
  rcases oq.lt with k|k
  .subst k;simp at ay;omega
  .exact k
 have aK:=C.arg
 have bD:=w.size
 have kr:∀{v:E},(∀j,j<U.size->j≠B.D->v[j]? =U[j]?)->ap v rs (bU g x):=λhk=>jb aA λG=>hk _ (iQ aA G) λk=>by
  have bb:x.args≠[]:=λS=>by
   let⟨y,s⟩:=UX _ G;have:=Cu s;rw[S]at this;simp at this
  rcases a4 with W|W|W
  .subst W;have:=aA.len;simp at this;exact G (List.length_eq_zero_iff.1 this.symm)
  .rw[W]at k;have:=iQ Z bb;omega
  .omega
 have kl:∀{v:E},(∀j,j<U.size->j≠B.D->v[j]? =U[j]?)->ap v ls (if x.op=9\/x.op=24 then fJ g x 0 x.args else[]):=λhk=>jb aO λG=>hk _ (iQ aO G) λk=>by
  rcases a3 with W|W
  .subst W;have:=aO.len;simp at this;exact G (List.length_eq_zero_iff.1 this.symm)
  .omega
 refine dW (n:=(bU g x).length) V (λp v=>J L v/\(∀j,j<U.size->j≠B.D->v[j]? =U[j]?)/\ig L v aB 1 B ((bC a.ak a.aS ((bU g x).take p)).map Ce.i)/\∀ac∈bC a.ak a.aS ((bU g x).take p),0<=ac) ⟨a9,λ_ _ _=>rfl,bo,bi⟩ ?_
 rintro p m5 bq μ hk ⟨ad,al,aE,K⟩ aT
 have F5:=Q.ext (w.trans ad)
 have bd:=kC a.ak ((bU g x).take p) a.aS
 have az:ap m5 B (bC a.ak a.aS ((bU g x).take p)):=ap.gC aE V
 refine dit (λh6=>?_) λh6=>?_
 .let⟨y,s⟩:=cL (bU g x) p
  have q:=ba y (aq s)
  have D:bC a.ak a.aS ((bU g x).take (p+1))=if 1000<=aF a.ak y then gA (bC a.ak a.aS ((bU g x).take p)) y (aF (bC a.ak a.aS ((bU g x).take p)) y -1)else bC a.ak a.aS ((bU g x).take p):=by
   rw[aV s,vm];rfl
  have H:y<(bC a.ak a.aS ((bU g x).take p)).length:=V
  have aW:=K _ (fq q.1 H)
  have aX:aF (bC a.ak a.aS ((bU g x).take p)) y<=999999:=by
   let⟨q',M,ak⟩:=lD ((bU g x).take p) a.aS y.toNat _ (kV q.1 H);have:=(C.O8 q' (aq M)).2;omega
  refine⟨V,V,y,by simpa using(kr al).aF s,d,F5.g3,q.1,V,_,F5.ak.pO q.1 q.2,λA=>?_,λA=>aT V _ ⟨ad,al,by rw[D,ae (by simpa using A)];exact aE,by rw[D,ae (by simpa using A)];exact K⟩⟩
  simp at A
  rw[ao A]at D
  refine⟨q.1,V,_,az.pO q.1 H,q.1,V,?_⟩
  have e1:cG (aF (bC a.ak a.aS ((bU g x).take p)) y -1)=aF (bC a.ak a.aS ((bU g x).take p)) y -1:=aR V V
  rw[e1]
  rcases aE.aF with aH|⟨X,am,tail,z1,z2,z3,z4,z5⟩
  .rw[aH]at ay;simp at ay;omega
  .have a6:B.off=0:=by rw[z1];rfl
   have aa:B.D=X:=by rw[z1];rfl
   have ai:B.off+y.toNat*1=y.toNat:=V
   rw[ai,aa]
   have ax:y.toNat<((bC a.ak a.aS ((bU g x).take p)).map Ce.i).length:=bG
   refine⟨z3.fO (by simp only[bh];omega),?_⟩
   intro m6
   have F:J L m6:=ad.ai V _ _
   have an:∀j,j<U.size->j≠B.D->m6[j]? =U[j]? :=λj t G=>by rw[bg _ _ _ _ V];exact al j t G
   have o6:ig L m6 aB 1 B ((bC a.ak a.aS ((bU g x).take (p+1))).map Ce.i):=by
    rw[D];refine⟨by rw[eu,gZ,<-eu (f:=Ce.i)];exact aE.len,Or.inr ⟨X,am,tail,z1,z2,?_,?_,z5⟩⟩
    .have:=cK.ai (m:=m5) (o:=y.toNat) (r:=[.i (aF (bC a.ak a.aS ((bU g x).take p)) y -1)]) z3;have e6:jt ((bC a.ak a.aS ((bU g x).take p)).map Ce.i++tail) y.toNat [.i (aF (bC a.ak a.aS ((bU g x).take p)) y -1)]=(gA (bC a.ak a.aS ((bU g x).take p)) y (aF (bC a.ak a.aS ((bU g x).take p)) y -1)).map Ce.i++tail:=by
      simp only[jt,gA,uq];rw[MM _ _ ax]
     rw[e6]at this;exact this
    .simp only[bh,eu,gZ]at z4⊢;exact z4
   have a1:=kC a.ak ((bU g x).take (p+1)) a.aS
   have aQ:ap m6 B (bC a.ak a.aS ((bU g x).take (p+1))):=ap.gC o6 V
   have Y:aF (bC a.ak a.aS ((bU g x).take (p+1))) y=aF (bC a.ak a.aS ((bU g x).take p)) y -1:=by rw[D,Cf q.1 H y q.1,ao rfl]
   have ag:=aQ.pO (i:=y) q.1 V
   rw[Y,ai,aa]at ag
   refine⟨J.tQ ad F P,q.1,V,_,ag,λh8=>bX (λz=>?_) (w.trans F),λh8=>aT V _ ⟨F,an,o6,λac T=>?_⟩⟩
   .simp at h8
    have ab:bC a.ak a.aS (bU g x)=bC a.ak (bC a.ak a.aS ((bU g x).take (p+1))) ((bU g x).drop (p+1)):=by rw[<-vm,dv]
    have av:y<(bC a.ak a.aS (bU g x)).length:=by rw[kC];omega
    have I:=kV (l:=bC a.ak a.aS (bU g x)) q.1 av
    have a0:=z.nn _ (aq I)
    rw[ab]at I
    let⟨q',M,ak⟩:=lD _ _ _ _ I
    have aP:=HU M
    rw[Y]at aP
    rw[<-ab]at ak
    omega
   .rw[D]at T
    rcases pU T with T|T
    .simp at h8;omega
    .exact K ac T
 .have bj:(bU g x).take p=bU g x:=bZ V
  rw[bj]at az K bd
  have aP:=kl al
  generalize bH:bC a.ak a.aS (bU g x)=aS at*
  have be:=aP.len
  refine⟨λv=>J m5 v/\(mg x.op->aF aS x.dst<=0),?_,?_⟩
  .refine(rJ _ _ ⟨V,V⟩).aJ ad P λj m6 t ag F=>⟨j,rfl,λH=>⟨hd.1,V,_,(az.ext ag).pO hd.1 V,λA=>bX (λz=>?_) (w.trans F),λA=>⟨ag,λ_=>by simpa using A⟩⟩,λD=>⟨ag,λI=>absurd I (Go.Vc.fb t D)⟩⟩
   have:=z.dst (t.1 H);simp at A;omega
  .rintro m6 ⟨ag,aa⟩
   have bm:∀(an:List Int)(jj:Nat)(y:Int),y∈fJ g x jj an->y∈an:=by
    intro an;induction an with
    |nil=>intro jj y h;simp[fJ]at h
    |cons D an A=>
     intro jj y h;simp only[fJ]at h;split at h
     .rcases List.mem_cons.1 h with rfl|h
      .exact aZ
      .exact ah _ (A _ _ h)
     .exact ah _ (A _ _ h)
   generalize ax:(if x.op=9\/x.op=24 then fJ g x 0 x.args else[])=LL at*
   have a_:∀y∈LL,0<=y/\y<a.ak.length:=λy s=>by
    rw[<-ax]at s;split at s
    .exact aK y (bm _ _ _ s)
    .simp at s
   refine dW (n:=LL.length) (be▸aP.gX) (λp v=>J m5 v/\∀y∈LL.take p,1000<=aF a.ak y->fQ N.heap (aF a.ak y)) ⟨ag,aN⟩ ?_
   rintro k2 m7 I2 μ2 bz ⟨ai,am⟩ aQ
   have Y:=ad.trans ai
   have A:=w.trans Y
   have H:=Q.ext A
   refine dit (λh8=>?_) λh8=>?_
   .let⟨y,s⟩:=cL LL k2
    have q:=a_ y (aq s)
    refine⟨V,V,y,by simpa using(aP.ext ai).aF s,d,H.g3,q.1,V,_,H.ak.pO q.1 q.2,λF=>?_,λF=>aQ V _ ⟨ai,bE s am λu=>by simp at F;omega⟩⟩
    simp at F
    refine(Lu (A.af R.rG) (cU.ext A R.heap) (C.F.pY q.1 q.2 C.MV).2).aJ Y P λj m8 t ak I=>⟨j,rfl,λD=>bX (λz=>?_) (w.trans I),λD=>aQ V _ ⟨ai.trans ak,bE s am λ_=>yb t D⟩⟩
    have M:=aq s
    rw[<-ax]at M
    split at M
    .rename_i e9;exact nb t D (z.cY e9 y M F)
    .simp at M
   .rw[bZ V]at am
    have ab:(x.op=9\/x.op=24)->KK g N.heap a x:=λe9=>by rw[ao e9]at ax;rw[<-ax]at am;exact am
    have bk:=az.ext ai
    have hV:=R.ext A
    have aW:1<=x.args.length->0<=aF x.args 0/\aF x.args 0<a.ak.length:=λX=>aK _ (fq V V)
    have ga:∀{v},J b v->1<=x.args.length->af v au.D (au.off+Int.toNat (0:Int)*1)=some (vi (aF x.args 0)):=λhx X=>(Z.ext hx).pO V V
    clear aT aQ al kr kl bf a4 a3
    refine⟨λk=>?_,λe1=>?_⟩
    .simp only[bT,aG]at k
     refine(ji (Z.ext A) 69 #[] #[vp b.size 0] bn (λy=>1000<=aF a.ak y) (λy s v av=>?_)).aJ Y (λj t=>P j (by simp at t;simp[t])) λj m8 t ak I=>⟨j,rfl,eW ?_ (w.trans I)⟩
     .simpa using Nb (av.af (Y.af kP)) (H.ext av) (aK y s)
     .have aH:(!j)=true<->¬(j=true):=aN
      rw[aH,t]
      constructor
      .intro aX
       have u:∀y∈x.args,aF a.ak y<1000:=λy s=>by
        rcases dT (1000<=aF a.ak y)with X|X
        .exact absurd ⟨y,s,X⟩ aX
        .omega
       have M:x.op≠6/\x.op≠24/\x.op≠23/\x.op≠11/\x.op≠14/\x.op≠15/\x.op≠16/\x.op≠17/\x.op≠19/\x.op≠21:=by rcases k with k|k|k|k|k|k<;>rw[k]<;>decide
       exact⟨K,aa,λ_=>u,λq=>absurd q M.1,ab,λq=>q.elim (λh=>absurd h M.2.1) (λh=>absurd h M.2.2.1),λq=>absurd q M.2.2.1,λq=>absurd q M.2.2.2.1,λq=>absurd q M.2.2.2.2.1,λq=>absurd q M.2.2.2.2.2.1,λq=>q.elim (λh=>absurd h M.2.2.2.2.2.2.1) (λh=>absurd h M.2.2.2.2.2.2.2.1),λq=>absurd q M.2.2.2.2.2.2.2.2.1,λq=>absurd q M.2.2.2.2.2.2.2.2.2⟩
      .rintro z ⟨y,s,X⟩
       have:=z.nX V y s;omega
    simp only[bu,aj]at e1
    refine⟨λk=>?_,λe6=>?_⟩
    .simp only[aG]at k
     have bx:=C.lL.2.2.2.2.1 k
     have iS:FI N.heap a x->lA g N a x aS:=λu=>by
      refine⟨K,aa,?_,?_,ab,?_,?_,?_,?_,?_,?_,?_,?_⟩<;>intro q<;>first|(exfalso;omega)|exact u
     refine⟨λF=>?_,λF=>iY (iS λG=>absurd (by simpa using F) G) A⟩
     simp at F
     have a0:cG (x.cg -1)=x.cg -1:=aR V V
     rw[a0]
     have M:0<=x.cg -1/\x.cg -1<a.ba.length:=V
     refine⟨h,H.g5,V,V,_,H.ba.pO M.1 M.2,λD=>?_,λD=>iY (iS λ_ G=>absurd (by simpa using D) G) A⟩
     simp at D
     obtain⟨T,dd,aH,_⟩:=C.Lz _ (fq M.1 M.2) D
     have bB:=aw aH
     have a7:ix (aF a.ba (x.cg -1))=(aF a.ba (x.cg -1) -1000).toNat:=rfl
     have a1:cG (aF a.ba (x.cg -1) -1000)=aF a.ba (x.cg -1) -1000:=aR V V
     have bv:=R.heap.len
     let⟨f9,a6,k0,k1,a8⟩:=(cU.ext A R.heap).aF aH
     have br:=a6.len
     have aX:aM N.heap (aF a.ba (x.cg -1))=dd:=by simp[aM,aH]
     refine⟨u,hV.rG,h,H.g5,V,V,_,H.ba.pO M.1 M.2,?_⟩
     rw[a1,<-a7]
     refine⟨V,V,f9,a8,eW ?_ A⟩
     simp only[aG]
     refine⟨λav=>iS λ_ _=>by rw[aX];omega,λz=>?_⟩
     have:=z.jv k F D
     rw[aX]at this;omega
    simp only[aj]at e6
    refine⟨λk=>?_,λa7=>?_⟩
    .simp only[bT,aG]at k
     refine(yp bk).aJ Y P λj m8 t ak I=>⟨j,rfl,λF=>bX (λz=>nb t F (z.zero k).1) (w.trans I),λF=>?_⟩
     have F8:=Q.ext (w.trans I)
     refine⟨h,F8.g5,(yp F8.ba).aJ I P λb2 m9 a1 br a0=>⟨b2,rfl,λD=>bX (λz=>nb a1 D (z.zero k).2) (w.trans a0),λD=>?_⟩⟩
     have M:=w.trans a0
     have F9:=Q.ext M
     have iS:(x.op=23->1<N.an.length\/aF a.ak (aF x.args 0)<1000)->lA g N a x aS:=λu=>by
      refine⟨K,aa,?_,?_,ab,?_,?_,?_,?_,?_,?_,?_,?_⟩<;>intro q<;>first|exact u q|(exfalso;omega)|exact⟨(yb t F),(yb a1 D)⟩
     have bv:=R.an.len
     refine⟨λav=>iY (iS λq=>by simp at av;omega) M,λav=>⟨fr,M.af R.OS,λaH=>iY (iS λ_=>Or.inl (by simp at aH;omega)) M,λaH=>?_⟩⟩
     simp at av aH
     have a6:x.op=23:=V
     have X:=C.lL.2.1 V
     have S:=aW V
     refine⟨d,F9.g3,V,V,_,ga M V,S.1,V,_,F9.ak.pO S.1 S.2,eW ?_ M⟩
     simp
     refine⟨λa8=>iS λ_=>Or.inr a8,λz=>?_⟩
     rcases z.ret a6 with aX|aX
     .omega
     .exact aX
    simp only[bu,aj]at a7
    refine⟨λk=>?_,λz=>?_⟩
    .simp only[aG]at k
     refine(Ie hV (A.af bc) C H (Z.ext A) k a2).aJ Y P λj m8 t ak I=>⟨j,rfl,eW (t.trans ?_) (w.trans I)⟩
     refine⟨λu=>?_,λh=>h.apply k⟩
     refine⟨K,aa,?_,?_,ab,?_,?_,?_,?_,?_,?_,?_,?_⟩<;>intro q<;>first|(exfalso;omega)|exact u
    simp only[aj]at z
    refine⟨λk=>?_,λF=>?_⟩
    .simp only[aG]at k
     have X:=C.lL.2.1 V
     have S:=aW V
     refine⟨d,H.g3,V,V,_,ga A V,S.1,V,_,H.ak.pO S.1 S.2,eW ?_ A⟩
     simp only[oK,ar]
     refine⟨λu=>?_,λh=>h.drop k⟩
     refine⟨K,aa,?_,?_,ab,?_,?_,?_,?_,?_,?_,?_,?_⟩<;>intro q<;>first|(exfalso;omega)|exact u
    simp only[aj]at F
    refine⟨λk=>?_,λD=>?_⟩
    .simp only[bT,aG]at k
     refine(Ep hV C H (Z.ext A) V a2).aJ Y P λj m8 t ak I=>⟨j,rfl,eW (t.trans ?_) (w.trans I)⟩
     refine⟨λu=>?_,λh=>⟨h.Xl,h.load,h.Fy,h.LN⟩⟩
     refine⟨K,aa,?_,?_,ab,?_,?_,?_,u.1,?_,u.2.2.2,u.2.1,u.2.2.1⟩<;>intro q<;>exfalso<;>omega
    .simp only[bu,aj]at D
     refine iY ?_ A
     refine⟨K,aa,?_,?_,ab,?_,?_,?_,?_,?_,?_,?_,?_⟩<;>intro q<;>exfalso<;>omega
end
section
variable{N c:Nat}{b:Nat->Nat}{a:E}{h:List bK}
def np(w:Int)(a:E):HL cp 80 [vi w] a (vi (gP w)):=by
 apply wo;unfold gP;exact⟨λh=>by simp at h;rw[ao h];exact⟨rfl,J.aA _⟩,λh=>by simp at h;rw[ae V];exact⟨rfl,J.aA _⟩⟩
def uR{d:O}(s:dO N b a d h)(A:∀e,a.size<=e->b e=0)(kb:cK a c eE [.s d])(C:b c=5)(H:h.length<=2000000000):
 aO cp 145 [vp c 0] a λ_ g=>dO N b g (d.cut 0 (jy h h.length) 3) (mZ h)/\cK g c eE [.s (d.cut 0 (jy h h.length) 3)]/\HC b a b g:=by
 apply Ah (c,0)
 have G:=s.len
 have t:=s.cells V
 have E:=t.cap
 have j:af a c 0=some (O.v d):=kb.cq 0
 refine⟨d,j,λl g=>g=a/\∃n:Nat,l=n/\n<=h.length/\jy h n=jy h h.length,λl _=>l.toNat,⟨rfl,h.length,V,ad _,rfl⟩,?_⟩
 rintro l e ⟨rfl,n,rfl,B,u⟩
 have x:Int.toNat (0:Int)=0:=rfl
 have en:Int.toNat (n:Int)=n:=V
 have iS:jy h n=n->dO N b (ai e c 0 [.s (d.cut 0 n 3)]) (d.cut 0 (jy h h.length) 3) (mZ h)/\cK (ai e c 0 [.s (d.cut 0 n 3)]) c eE [.s (d.cut 0 (jy h h.length) 3)]/\HC b e b (ai e c 0 [.s (d.cut 0 n 3)]):=λw=>by
  have f:dx (λk=>k=5) b e b (ai e c 0 [.s (d.cut 0 n 3)]):=dx.ai A C _ _;have i:jy h h.length=n:=by rw[<-u,w]
  rw[i];refine⟨?_,cK.ai (m:=e) (o:=0) (r:=[.s (d.cut 0 n 3)]) kb,f.mono λk z=>Or.inr (Or.inl z)⟩;have:=(s.eJ f bn bn).cut B;unfold mZ;rw[i];exact this
 refine⟨λp=>?_,λp=>?_⟩
 .simp only[kU,ar]at p
  obtain⟨k,rfl⟩:∃k,n=k+1:=⟨n -1,V⟩
  have i:cG (((k+1:Nat):Int) -1)=(k:Int):=by rw[aR V V];omega
  let⟨v,f⟩:=cL h k
  obtain⟨D,F,y,_⟩:=t.aF f
  refine⟨d,j,?_⟩
  rw[i]
  refine⟨V,V,v.aQ,by simpa using y,λq=>⟨⟨rfl,k,rfl,V,?_⟩,by show(k:Int).toNat<((k+1:Nat):Int).toNat;omega⟩,λq=>⟨d,j,V,V,V,kb.fO aN,?_⟩⟩
  .rw[<-u,Qy f (by simpa using q)]
  .rw[x,en];exact iS (MH f (by simpa using q))
 .simp only[kU,bO]at p
  have q:n=0:=V
  subst q
  exact⟨d,j,V,V,V,kb.fO aN,iS rfl⟩
def Gj{e:O}(hh:dO N b a e h)(hn:∀g,a.size<=g->b g=0)(kb:cK a c eE [.s e])(hr:b c=5){v:Int}{W:Nat->Int}(hI:fL h (λg=>W g+eD [v] g))(he:∀g,0<=W g)(a0:h.length<=2000000000):
 aO cp 78 [vp c 0,vi v] a λ_ q=>∃u av,dO N u q av (mZ (iz h [v]))/\cK q c eE [.s av]/\HC b a u q:=by
 apply Ag (c,0)
 intro r
 have X:J a r:=(J.aA a).aL _
 have s1:r.size=a.size+1:=by simp[r]
 have o1:ig a r aB 1 (.mk a.size 0 1 1) ([v].map Ce.i):=ig.new (J.aA a) aB 1 _ 1 aN
 have c1:HC b a (oJ b a.size 6) r:=dx.oJ X hn (ad _) V 6
 have a1:iR (oJ b a.size 6) r aB 1 6 (.mk a.size 0 1 1) ([v].map Ce.i):=iR.gC o1 λ_=>fK _ _ _
 have aK:dO N (oJ b a.size 6) r e h:=hh.eJ (dx.oJ (p:=λ_=>False) X hn (ad _) V 6) id id
 have aT:=kb.ext X
 have aL:oJ b a.size 6 c=5:=by rw[eX (oh kb.lt)];exact hr
 clear_value r
 have aX:=OT λaE d=>(hI.cell aE d).fl
 have aY:=hh.len
 refine Pp (γ:=List bK×List Int) (λi G q=>∃u,dO N u q e i.1/\iR u q aB 1 6 G (i.2.reverse.map Ce.i)/\HC b a u q/\fL i.1 (λg=>W g+eD i.2 g)/\iz i.1 i.2=iz h [v]/\i.1.length=h.length/\i.2.length+Cy i.1<=1+Cy h/\cK q c eE [.s e]/\u c=5) (λi=>Cx i.1+i.2.length) (h,[v])
  ⟨_,aK,a1,c1,hI,rfl,rfl,aN,aT,aL⟩ ?_
 rintro⟨d,st⟩ G m2 aU μ ⟨m,B,a2,i,t,y,K,ak,P,z⟩ ae
 simp only[]at B a2 t y K ak
 have az:G.len=st.length:=by have:=a2.len;simp at this;omega
 refine⟨λY=>?_,λY=>?_⟩
 .simp only[kU,ar]at Y
  cases st with
  |nil=>simp at az;omega
  |cons x s=>
   simp only[QJ]at a2
   let⟨p1,p2,p3⟩:=a2.Vx
   simp only[be,ng]at az p1 p2 p3 ak
   have e1:cG ((G.len:Int) -1)=(s.length:Int):=by rw[aR V V];omega
   have aV:=a2.le
   have e2:Int.toNat (0:Int)=0:=rfl
   have e3:Int.toNat (s.length:Int)=s.length:=V
   have aA:1000<=x->fQ d x:=λM=>t.PO he M
   have aS:x<=9223372036854775807:=by
    rcases dT (1000<=x)with k|k
    .have:=aw (bP (aA k)).1;unfold ix at this;omega
    .omega
   refine⟨e,P.cq 0,?_⟩
   rw[e1,e2,e3]
   refine⟨V,V,x,p2,(iE (B.cells V) aS).mono ?_⟩
   rintro _ Q ⟨aD,g,rfl,ah,aI,n⟩
   refine⟨aD,g,rfl,V,V,V,λaJ=>?_,λai=>?_⟩
   .have M:=nb ah aJ
    have H:HC m m2 m Q:=dx.eI _ n i.new
    refine ae (d,s) _ _ ⟨m,B.eJ (dx.eI (λ_=>False) n i.new) id id,p3.eJ (dx.eI (λ_=>False) n i.new) id,i.trans H,t.RQ ?_,?_,K,by simp only[];omega,P.ext n,z⟩ aN
    .rcases dT (1000<=x)with k|k
     .exact absurd (aA k) M
     .omega
    .rw[<-qJ (w:=x) M];exact y
   .have E:=yb ah ai
    have aH:=aI (by simpa using ai)
    subst aH
    let⟨j,ax⟩:=bP E
    have an:=aw j
    have aZ:=(t.cell _ (aq j)).hi
    have aF:Int.toNat ((ix x:Nat):Int)=ix x:=V
    have H:HC m m2 m Q:=dx.eI _ n i.new
    have C:dO N m Q e d:=B.eJ (dx.eI (λ_=>False) n i.new) id id
    have a3:=p3.eJ (dx.eI (λ_=>False) n i.new) id
    have F:=P.ext n
    obtain⟨f0,g0,_,_,_,_⟩:=C.cq j
    refine⟨e,F.cq 0,?_⟩
    rw[aF]
    refine⟨V,V,_,g0,V,V,C.wr (o:=0) an bn,?_⟩
    have e5:cG ((aM d x).aQ -1)=(aM d x).aQ -1:=aR V V
    rw[e5]
    intro m4
    let⟨ab,T⟩:=C.rO H.new j ((aM d x).aQ -1)
    have a4:=a3.eJ T bn
    have A:cK m4 c eE [.s e]:=F.congr (T.eC _ F.lt (by rw[z];decide))
    have S:HC b a m m4:=(i.trans H).trans (T.mono λaC D=>Or.inl D)
    have Z:=kK (d:=jd) j
    simp only[ao ax,jd]at Z
    simp at Z
    have aP:(d.set (ix x) {aM d x with aQ:=(aM d x).aQ -1})[ix x]? =some {aM d x with aQ:=(aM d x).aQ -1}:=eK j
    obtain⟨f1,k0,_,k2,kf,kr⟩:=ab.cq aP
    refine⟨e,A.cq 0,V,V,_,k0,λk=>?_,λk=>?_⟩
    .simp only[aG]at k
     have au:(aM d x).aQ=1:=V
     have aW:=(t.cell _ (aq j)).fl
     have aa:=kf.len
     simp only[]at aa kf kr
     have I:=Aa jd j
     simp only[jd,eY]at I
     refine⟨e,A.cq 0,V,V,f1,k2,iR.append (zs:=[.i 0]) (c:=(aM d x).aH.map Ce.i) a4 S.new (by simp[aa]) kf.Iv ?_ λaf a5 m5 q1 R=>?_⟩
     .have:(G.cut 0 s.length 1).len=s.length:=by have:=a4.len;simp at this;omega
      rw[this,aa];omega
     have al:=ab.eJ R bn bn
     have ag:HC b a af m5:=S.trans (R.mono λaC D=>Or.inr (Or.inr D))
     have ac:cK m5 c eE [.s e]:=A.congr (R.eC _ A.lt (by rw[z];decide))
     have ay:af c=5:=by rw[R.gY _ A.lt];exact z
     have ap:ix x<(d.set (ix x) {aM d x with aQ:=(aM d x).aQ -1}).length:=by simpa using an
     refine⟨e,ac.cq 0,V,V,al.wr (o:=0) ap bn,?_⟩
     intro m7
     let⟨am,U⟩:=al.setCell ag.new ap 0 0 (f:=.nil) (l:=[]) ⟨rfl,aN,aN,aN⟩ (λL=>absurd rfl L)
     rw[XH]at am
     refine ae (d.set (ix x) jd,(aM d x).aH.reverse++s) _ _ ⟨af,am,?_,ag.trans (U.mono λaC D=>Or.inl D),t.RS he E au,?_,by simpa using K,?_,ac.congr (U.eC _ ac.lt (by rw[ay];decide)),ay⟩ ?_
     .have:=q1.eJ U bn
      simpa using this
     .rw[<-tp E au];exact y
     .simp only[bh,ng]
      have D:Cy (d.set (ix x) jd)+(aM d x).aH.length=Cy d:=by simpa[jd]using I
      omega
     .simp only[bh,ng,be]
      have D:Cx (d.set (ix x) jd)+((aM d x).aQ.toNat+(aM d x).aH.length)=Cx d:=by simpa[jd]using Z
      omega
    .simp only[aj]at k
     have L:(aM d x).aQ≠1:=V
     have D:=kK (d:={aM d x with aQ:=(aM d x).aQ -1}) j
     simp only[ao ax]at D
     rw[ao V]at D
     have I:=Aa {aM d x with aQ:=(aM d x).aQ -1} j
     refine ae (fu d x,s) _ _ ⟨m,ab,a4,S,t.PQ he E L,?_,by simpa[fu]using K,?_,A,z⟩ ?_
     .rw[<-qI E L];exact y
     .simp only[fu];simp only[]at I;omega
     .simp only[fu,be];omega
 .simp only[kU,bO]at Y
  have j:st=[]:=List.length_eq_zero_iff.1 V
  subst j
  rw[tn]at y
  subst y
  refine(uR B i.new P z V).mono ?_
  rintro _ Q ⟨C,F,g⟩
  exact⟨m,_,C,F,i.trans g⟩
def PX{i:O}(f:cU a i h):aO cp 186 [O.v i,.func (.func 187) #[] #[]] a λB j=>∃r:Int,B=vi r/\J a j/\(if dJ h=h.length then r= -1 else r=dJ h):=by
 apply mu i (.func 187,#[],#[]);have y:=f.len;refine dW (n:=h.length) (y▸f.gX) (λk j=>J a j/\∀b∈h.take k,b.aQ≠0) ⟨J.aA _,aN⟩ ?_;rintro k o I μ x ⟨e,g⟩ A
 refine dit (λs=>?_) λs=>?_
 .let⟨b,d⟩:=cL h k;let⟨l,C,q,g1,g2⟩:=(cU.ext e f).aF d;refine⟨V,V,b.aQ,by simpa using q,_,by simpa using g1,l,by simpa using g2,187,rfl,bn,?_⟩;have v:dy cp 187 [.agg #[vi b.aQ,vi b.kE,O.v l]] o (b.aQ=0):=by
   apply wg;simp -zeta only[aD,aC];intro z;exact eW aN ((J.aA o).aL _)
  refine aO.mono v ?_;rintro _ z ⟨p,rfl,c,m⟩;refine⟨p,rfl,λu=>⟨_,rfl,e.trans m,?_⟩,λt=>A V _ ⟨e.trans m,bE d g (fb c t)⟩⟩;have w:=HZ h k b g d (c.1 u);have:=aw d;rw[ae V,w]
 .refine⟨_,rfl,e,?_⟩;have:=zZ h k x g;have:=qL h;rw[ao V]
def En{e:O}(l:dO N b a e h)(B:∀s,a.size<=s->b s=0)(kb:cK a c eE [.s e])(P:b c=5)(G:Int){Y:O}{E:List Int}(hf:ap a Y E)(aq:h.length<=1000000000)(hl:E.length<=1000000000)(hN:N<=a.size):
 aO cp 144 [vp c 0,vi G,O.v Y] a λak S=>∃i aa,ak=vi (1000+dJ h)/\dO N i S aa (jv h (dJ h) ⟨1,G,E⟩)/\cK S c eE [.s aa]/\HC b a i S:=by
 apply yO (c,0)
 simp -zeta only[aD,aC]
 refine(eO hf hl).then hl λW y o1 i1 Z=>⟨W,rfl,?_⟩
 intro m2 F
 have z:J y F:=((J.aA y).aL _).ai (ad _) _ _
 have s3:F.size=y.size+1:=by simp[F,m2,ax]
 have Q:=Z.trans z
 clear_value F
 have ab:E≠[]->b W.D=0:=λah=>by
  rcases o1.D with j|j
  .subst j;have:=i1.len;simp at this;exact absurd (List.length_eq_zero_iff.1 this.symm) ah
  .exact B _ j
 have L:b y.size=0:=B _ Z.size
 have am:=l.len
 have al:=qL h
 refine⟨e,Q.af (kb.cq 0),(PX (cU.ext Q (l.cells V))).mono ?_⟩
 rintro _ g ⟨aj,rfl,q,C⟩
 have w:=Q.trans q
 have t:HC b a b g:=dx.eI _ w B
 have M:dO N b g e h:=l.eJ (dx.eI (λ_=>False) w B) id id
 have n:=kb.ext w
 have i4:=i1.ext (z.trans q)
 have an:=q.size
 refine⟨q.dz bG,aj,rfl,λj=>?_,λj=>?_⟩
 .simp at j
  have A:dJ h=h.length:=by
   rcases dT (dJ h=h.length)with u|u
   .exact u
   .rw[ae u]at C;omega
  refine⟨e,n.cq 0,e,n.cq 0,?_⟩
  intro p
  have k:J g p:=(J.aA g).aL _
  have s5:p.size=g.size+1:=by simp[p]
  have jD:fS p g.size 0 [.i 1,.i G,.s W]:=(cK.push g _ _).iL
  have X:HC b a b p:=t.trans (dx.eI _ k t.new)
  clear_value p
  refine⟨k.dg (n.cq 0),dO.push (M.eJ (dx.eI (λ_=>False) k t.new) id id) X.new (x:=.mk g.size 0 1 1) rfl jD (i4.ext k) (RG.of l (λK=>(w.trans k).same _ (l.D K).2) (λ_=>o1.ext ((z.trans q).trans k)) ab hN) V λi af T U d=>?_⟩
  have R:=n.ext k
  have ac:cK T c eE [.s e]:=R.congr (d.eC _ R.lt (by rw[P];decide))
  have ai:i c=5:=by rw[d.gY _ R.lt];exact P
  have ag:i y.size=0:=by rw[d.gY _ V];exact L
  refine⟨λs f=>?_,ac.fO aN,?_⟩
  .simp at f;subst f
   exact d.eC _ V (by rw[L];decide)
  intro m7
  have H:dx (λD=>D=5) i T i m7:=dx.ai d.new ai _ _
  have I:cG (1000+(e.len:Int))=1000+(dJ h:Int):=by rw[aR V V];omega
  rw[I]
  refine⟨λs f=>?_,i,af,rfl,?_,cK.ai (m:=T) (o:=0) (r:=[.s af]) ac,(X.trans (d.mono λD v=>Or.inl v)).trans (H.mono λD v=>Or.inr (Or.inl v))⟩
  .simp at f;subst f
   exact H.eC _ (oh d.size) (by rw[ag];decide)
  .rw[jv,ao A];exact U.eJ H bn bn
 .simp at j
  have A:dJ h≠h.length:=λu=>by rw[ao u]at C;omega
  rw[ae A]at C
  subst C
  have k:dJ h<h.length:=V
  have H:Int.toNat ((dJ h:Nat):Int)=dJ h:=V
  have I:cG (1000+(dJ h:Int))=1000+(dJ h:Int):=aR V V
  refine⟨e,n.cq 0,?_⟩
  rw[H,I]
  refine⟨V,V,M.wr (o:=0) k bn,?_⟩
  intro p
  let⟨U,d⟩:=M.setCell t.new k 1 G i4 (RG.of l (λK=>w.same _ (l.D K).2) (λ_=>o1.ext (z.trans q)) ab hN)
  refine⟨λs f=>?_,b,e,rfl,?_,n.congr (d.eC _ n.lt (by rw[P];decide)),t.trans (d.mono λD v=>Or.inl v)⟩
  .simp at f;subst f
   exact d.eC _ V (by rw[L];decide)
  .rw[jv,ae A];exact U
end
section
variable{l:List Int}
def OW{i a b:Int}(l:gS a)(m:gS b)(o:E):HL cp 143 [vi i,vi a,vi b] o (vi (O9 i a b)):=by
 unfold gS at l m;have s: -2000000<=a*b/\a*b<=2000000:=by
  have c:(a*b).natAbs<=999*999:=by rw[Int.natAbs_mul];exact MO V V
  omega
 have k:∀n:Int,(if(999:Int)<(if(-999:Int)>n then(-999:Int)else n)then(999:Int)else(if(-999:Int)>n then(-999:Int)else n))=FT n:=λn=>by
  unfold FT;repeat' split
  all_goals omega
 have p:cG (a+b)=a+b:=aR V V;have q:cG (a -b)=a -b:=aR V V;have r:cG (a*b)=a*b:=aR V V;apply JU;rw[p,q,r,k,k,k];unfold O9;refine⟨λh=>by simp at h;omega,λ_=>⟨λh=>by simp at h;omega,λ_=>⟨λh=>by simp at h;omega,λ_=>⟨λh=>by simp at h;omega,λ_=>⟨λc=>?_,λc=>⟨λd=>?_,λd=>⟨λe=>?_,λe=>⟨λf=>⟨λj=>?_,λj=>?_⟩,λf=>?_⟩⟩⟩⟩⟩⟩⟩⟩
 .simp at c;rw[ao c];exact⟨rfl,J.aA _⟩
 .simp at c d;rw[ae c,ao d];exact⟨rfl,J.aA _⟩
 .simp at c d e;rw[ae c,ae d,ao e];exact⟨rfl,J.aA _⟩
 .simp at c d e f j;have g:i=4/\a<b:=⟨f,j⟩;rw[ae c,ae d,ae e,ao g];exact⟨rfl,J.aA _⟩
 .simp at c d e f j;have g:¬(i=4/\a<b):=V;rw[ae c,ae d,ae e,ae g];exact⟨rfl,J.aA _⟩
 .simp at c d e f;have g:¬(i=4/\a<b):=V;rw[ae c,ae d,ae e,ae g];exact⟨rfl,J.aA _⟩
def vx{a:E}{fb e:Nat}{f:aY}{j:O}(w:af a fb (e+3)=some (O.v j))(p:ap a j f.ak){s:O}(q:ap a s l)(A:∀y∈l,0<=y/\y<f.ak.length)(L:l.length<=100000000):
 oN 77 [vp fb e,O.v s] a (cQ f l):=by
 apply xw (fb,e)
 have K:=q.len
 have H:=p.len
 have t:Int.toNat (s.len:Int)=l.length:=V
 rw[t]
 refine⟨V,de _,V,V,?_⟩
 intro d
 have z:J a d:=(J.aA a).aL _
 have C:cK d a.size aB ((dt l.length).map Ce.i):=by rw[<-uj];exact cK.push a _ _
 have M:d.size=a.size+1:=by simp[d]
 clear_value d
 simp only[O.jJ,O.nt,O.gL,bW]
 refine dW (n:=l.length) V (λk b=>J a b/\cK b a.size aB ((cQ f (l.take k)++dt (l.length -k)).map Ce.i)) ⟨z,by simpa[cQ]using C⟩ ?_
 rintro k D I μ G ⟨b,c⟩ F
 refine dit (λx=>?_) λx=>?_
 .let⟨y,h⟩:=cL l k
  have i:=A y (aq h)
  have v:Int.toNat (k:Int)*1=k:=V
  refine⟨V,V,y,by simpa using b.af (q.aF h),j,b.af w,i.1,V,_,b.af (p.pO i.1 i.2),V,V,?_⟩
  rw[v]
  have g:(cQ f (l.take k)).length=k:=by simp[cQ];omega
  refine⟨c.fO (by simp[g,kH];omega),?_⟩
  refine F V _ ⟨b.ai (ad _) _ _,?_⟩
  have:=cK.ai (m:=D) (o:=k) (r:=[.i (aF f.ak y)]) c
  have u:jt ((cQ f (l.take k)++dt (l.length -k)).map Ce.i) k [.i (aF f.ak y)]=(cQ f (l.take (k+1))++dt (l.length -(k+1))).map Ce.i:=by
   have B:dt (l.length -k)=0::dt (l.length -(k+1)):=by
    have:l.length -k=(l.length -(k+1))+1:=V;rw[this];rfl
   rw[B,fA,lR _ _ _ _ (by simp[g])];simp only[eu,g,QL,cO,jt,iJ];rw[aV h];simp[cQ]
  rw[u]at this;exact this
 .have g:k=l.length:=V
  subst g
  rw[fB,QL]at c
  simp only[dt,NB,eg]at c
  refine⟨_,rfl,⟨by simp[cQ],Or.inr ⟨a.size,l.length,[],rfl,ad _,by rw[eg];exact c,by simp[cQ],ad _⟩⟩,b⟩
abbrev IB(d p:O)(c:Int)(s:St)(aU b a:O):List Ce:=[.s d,.s p,.i c,.i s.cw,.i s.value,.i s.bA,.i s.dX,.s aU,.s b,.s a]
def Ea(g:E)(i:Nat->Nat)(m:E)(h:Nat)(f p:O)(e:Int)(s:St)(c:E):Prop:=
 ∃d aU b a,vS g d c h bV (IB f p e s aU b a) aU b a s.aU s.heap s.an/\To i m d c
def Ea.from{b:E}{g h:Nat->Nat}{m e a:E}{f:Nat}{d p:O}{c:Int}{s:St}(j:Ea b h e f d p c s a)(o:To g m h e):Ea b g m f d p c s a:=
 let⟨q,aU,n,i,k,l⟩:=j
 ⟨q,aU,n,i,k,o.trans l⟩
section
variable{p:E}{c s:Nat->Nat}{m d:E}{q e:Nat}{g:List Ce}{aU j a:O}{n:List Int}{k:List bK}{b:List aY}{f:aY}{r o h:O}{i:List (List Ce)}
def ST.Z3(S:ST p c m q e g aU j a n k b f r o h i)(l:dx (λ_=>False) c m s d):ST p s d q e g aU j a n k b f r o h i/\To c m s d:=by
 let⟨L,t⟩:=S.cX.gD (l.mono λ_=>False.elim) (S.cX.heap.eJ l id id);exact⟨⟨L,S.fW.eJ l λ_ _=>id⟩,t⟩
def ST.fp(S:ST p c m q e g aU j a n k b f r o h i)(d:f.ak.length<=1000000/\f.aS.length<=1000000/\f.ba.length<=1000000):FP m a.D (a.off+b.length*6) f r o h:=by
 obtain⟨_,_,_,l,s,t⟩:=S.fW.iL;exact⟨l,s,t,S.Ax d.1,S.JH d.2.1,S.Rh d.2.2⟩
def rI(S:ST p c m q e g aU j a n k b f r o h i){s:Int}(l:0<=s)(u:s<f.ak.length)(v:s<f.aS.length)(w aS:Int):
 aO cp 74 [vp a.D (a.off+b.length*6),vi s,vi w,vi aS] m λ_ d=>ST p c d q e g aU j a n k b (f.put s w aS) r o h i/\To c m c d:=by
 apply Ab (a.D,a.off+b.length*6)
 obtain⟨_,_,_,y,z,A⟩:=S.fW.iL
 have C:r.len=f.ak.length:=by have:=S.fW.ak.len;simp at this;omega
 have B:o.len=f.aS.length:=by have:=S.fW.aS.len;simp at this;omega
 let⟨t,t1⟩:=S.AE l u w
 let⟨x,t2⟩:=t.qd l (by simpa using v) aS
 exact⟨r,y,o,z,l,V,S.fW.ak.Om l u,l,V,t.fW.aS.Om l v,x,t1.trans t2⟩
end
section
variable{n:E}{g:Nat->Nat}{a:E}{k:Nat}{d p aU b e:O}{c:Int}{s:St}{j:List aY}{f:aY}{u t h:O}{q:List (List Ce)}
def ST.OV{d:Nat}{c:List Ce}{l:List Int}{i:List bK}(S:ST n g a k d c aU b e l i j f u t h q):
 ST n (oJ g a.size 5) (ai (a.push (.cells (bz [.s O.nil]) eE)) a.size 0 [.s b]) k d c aU b e l i j f u t h q/\To g a (oJ g a.size 5) (ai (a.push (.cells (bz [.s O.nil]) eE)) a.size 0 [.s b])/\
  cK (ai (a.push (.cells (bz [.s O.nil]) eE)) a.size 0 [.s b]) a.size eE [.s b]:=by
 have v:J a (ai (a.push (.cells (bz [.s O.nil]) eE)) a.size 0 [.s b]):=((J.aA a).aL _).ai (ad _) _ _
 have s:dx (λ_=>False) g a (oJ g a.size 5) (ai (a.push (.cells (bz [.s O.nil]) eE)) a.size 0 [.s b]):=dx.oJ v S.cX.new (ad _) (by rw[ax];simp) 5
 let⟨p,t1⟩:=S.Z3 s
 exact⟨p,t1,cK.ai (m:=a.push (.cells (bz [.s O.nil]) eE)) (o:=0) (r:=[.s b]) (cK.push a _ _)⟩
def DI(S:ST n g a k bV (IB d p c s aU b e) aU b e s.aU s.heap j f u t h q)(r:Int){z:O}(E:ap a z l)(M:l.length<=1000000)(D:s.heap.length<=1000000000):
 aO cp 76 [vp k 0,vi r,O.v z] a λL x=>L=vi (1000+dJ s.heap)/\∃y w,ST n y x k bV (IB d p c s aU w e) aU w e s.aU (jv s.heap (dJ s.heap) ⟨1,r,l⟩) j f u t h q/\To g a y x:=by
 apply vu (k,0)
 simp -zeta only[aD,aC]
 refine⟨b,S.cX.box.cq 8,?_⟩
 intro N H
 let⟨m,t2,kb⟩:=S.OV
 have F:J a H:=((J.aA a).aL _).ai (ad _) _ _
 refine(En m.cX.heap m.cX.new kb (fK _ _ _) r (E.ext F) D V m.cX.cA.size).mono ?_
 rintro _ P ⟨I,o,rfl,C,G,B⟩
 let⟨v,t3⟩:=m.gD B C
 refine⟨_,rfl,o,G.cq 0,v.cX.mK (i:=8) aN,?_⟩
 intro Q
 let⟨A,K⟩:=v.jF 8 [.s o]
 exact⟨rfl,I,o,A,(t2.trans t3).trans K⟩
def Gi(S:ST n g a k bV (IB d p c s aU b e) aU b e s.aU s.heap j f u t h q){x:Instr}{W aw:O}(ha:ap n W x.args)(ah:∀y∈x.args,0<=y/\y<f.ak.length)(aB:x.args.length<=4)
 (aH:f.ak.length=f.aS.length/\f.ba.length=f.aS.length/\f.aS.length<=2000)(aG:0<=x.cg/\x.cg<=f.ba.length)(ak:s.heap.length<=1000000000)(am:∀w∈f.ba,w≠0->1000<=w/\ix w<s.heap.length):
 aO cp 75 [vp k 0,vp e.D (e.off+j.length*6),xv x W aw] a λaz m'=>∃(H:Nat->Nat)(E:O)(m:Nat)(i:aY),az=vi (1000+m)/\ST n H m' k bV (IB d p c s aU E e) aU E e s.aU (jv s.heap m ⟨1,x.bS,cQ f x.args⟩) j i u t h q/\To g a H m'/\
  i.ak=f.ak/\i.aS=f.aS/\i.pc=f.pc/\(∀y,nL s j {f with pc:=y} x x.bS={s with heap:=jv s.heap m ⟨1,x.bS,cQ f x.args⟩,an:=j++[aY.put {i with pc:=y+1} x.dst (1000+m) 1]}):=by
 apply sq (k,0) (e.D,e.off+j.length*6)
 simp -zeta only[aD,aC]
 intro G
 have au:J a G:=(J.aA a).aL _
 have s1:G.size=a.size+1:=by simp[G]
 let⟨z,t1⟩:=S.ext au
 have T:zG g G [a.size]:=λaA hb=>by simp at hb;subst hb;exact⟨V,S.cX.new _ (ad _)⟩
 clear_value G
 have U:=z.fp ⟨V,V,V⟩
 have aE:h.len=f.ba.length:=by have:=S.fW.ba.len;simp at this;omega
 refine(vx U.g3 U.ak (ha.ext z.cX.cA) ah V).mono ?_
 rintro _ P ⟨C,rfl,R,Z⟩
 let⟨r,t2⟩:=z.ext Z
 have K:=T.to t2
 have aJ:(cQ f x.args).length=x.args.length:=by simp[cQ]
 have F:ap P C (cQ f x.args):=ap.gC R V
 have af:=t1.trans t2
 have none:¬(x.cg≠0/\aF f.ba (x.cg -1)≠0)->aO cp 76 [vp k 0,vi x.bS,O.v C] P λax N=>eF [a.size] P N/\∃ac:Int,ax=vi ac/\∃(H:Nat->Nat)(E:O)(m:Nat)(i:aY),vi ac=vi (1000+m)/\ST n H N k bV (IB d p c s aU E e) aU E e s.aU (jv s.heap m ⟨1,x.bS,cQ f x.args⟩) j i u t h q/\To g a H N/\
  i.ak=f.ak/\i.aS=f.aS/\i.pc=f.pc/\(∀y,nL s j {f with pc:=y} x x.bS={s with heap:=jv s.heap m ⟨1,x.bS,cQ f x.args⟩,an:=j++[aY.put {i with pc:=y+1} x.dst (1000+m) 1]}):=λaq=>by
  refine(DI r x.bS F V ak).mono ?_
  rintro _ Q ⟨rfl,ay,ar,v,t3⟩
  exact⟨t3.dL K,_,rfl,ay,ar,dJ s.heap,f,rfl,v,af.trans t3,rfl,rfl,rfl,λy=>by rw[nL,ae aq];rfl⟩
 refine⟨t2.dL T,C,rfl,λD=>none λL=>by simp at D;exact L.1 D,λD=>?_⟩
 simp at D
 have e1:cG (x.cg -1)=x.cg -1:=aR V V
 have l:0<=x.cg -1/\x.cg -1<f.ba.length:=V
 have I:=r.fp ⟨V,V,V⟩
 have X:=I.ba.pO l.1 l.2
 refine⟨h,I.g5,?_⟩
 rw[e1]
 refine⟨V,V,_,X,λB=>none λL=>by simp at B;exact L.2 B,λB=>?_⟩
 simp at B
 let⟨aa,ab⟩:=am _ (fq l.1 l.2) B
 have aI:=r.cX.heap.len
 refine⟨h,I.g5,V,V,_,X,h,I.g5,V,V,r.fW.ba.Om l.1 l.2,?_⟩
 intro Q
 let⟨v,t3⟩:=r.xG l.1 l.2 0
 have B3:=K.to t3
 have al:ix (aF f.ba (x.cg -1))=(aF f.ba (x.cg -1) -1000).toNat:=rfl
 have e2:cG (aF f.ba (x.cg -1) -1000)=aF f.ba (x.cg -1) -1000:=aR V V
 refine⟨t3.dL K,b,v.cX.box.cq 8,?_⟩
 rw[e2,<-al]
 refine⟨V,V,v.cX.heap.wr (o:=0) ab bn,?_⟩
 intro m4
 have M:cQ f x.args≠[]->g C.D=0:=λw=>by
  rcases R.D with A|A
  .subst A;have:=F.len;simp at this;exact absurd (List.length_eq_zero_iff.1 this.symm) w
  .exact S.cX.new _ V
 have av:ap Q C (cQ f x.args):=jb F λw=>t3.eC _ (iQ F w) (by rw[M w];simp)
 have aj:h.cap≠0:=λA=>by have:=(r.fW.ba.DF A).1;simp at this;rw[this]at l;simp at l;omega
 have ag:RG n.size g Q b s.heap C (cQ f x.args):=RG.of z.cX.heap (λY=>(bg _ _ _ _ λA=>by have q1:=(r.fW.ba.D aj).2;have q2:=(r.cX.heap.D Y).1;rw[A,q1]at q2;omega).trans (Z.same _ (z.cX.heap.D Y).2)) (λw=>R.congr (t3.eC _ (iQ F w) (by rw[M w];simp))) M z.cX.cA.size
 let⟨ai,c4⟩:=v.cX.heap.setCell v.cX.new ab 1 x.bS av ag
 let⟨S4,t4⟩:=v.gD (c4.mono λaK Y=>Or.inl Y) ai
 have Y:jv s.heap (ix (aF f.ba (x.cg -1))) ⟨1,x.bS,cQ f x.args⟩=s.heap.set (ix (aF f.ba (x.cg -1))) ⟨1,x.bS,cQ f x.args⟩:=by rw[jv,ae V]
 refine⟨t4.dL B3,g,b,ix (aF f.ba (x.cg -1)),{f with ba:=gA f.ba (x.cg -1) 0},by rw[iv aa],by rw[Y];exact S4,(af.trans t3).trans t4,rfl,rfl,rfl,λy=>?_⟩
 rw[nL,ao ⟨D,B⟩,Y,iv aa];rfl
end
end
section
variable{w:Int}
def LC:∀(b:List Int)(g:List bK),(∀v∈b,fQ g v)->∀x,fQ g x->fQ (iW g b) x
 |[],g,_,x,c=>c
 |v::b,g,d,x,c=>by
  have e:=d v aZ;have up:∀y,fQ g y->fQ (mP g v) y:=λy a=>⟨a.1,(eQ.mP e _).2 a.2⟩;exact LC b (mP g v) (λy a=>up y (d y (ah _ a))) x (up x c)
def SR{h:List bK}(c:fQ h w)(d:(aM h w).aQ≠1){x:Int}(a:fQ h x):fQ (fu h w) x:=by
 let⟨b,f⟩:=bP c;refine⟨a.1,?_⟩;by_cases e:ix x=ix w
 .rw[e];unfold fu;rw[eQ.uz b];simp only[];omega
 .exact(eQ.ne e).2 a.2
section
variable{t:E}{e:Nat->Nat}{m:E}{j:Nat}{d p aU b g:O}{c:Int}{s:St}{q:List aY}{a:aY}{r v h:O}{u:List (List Ce)}
open Classical in
noncomputable def sg (g:List bK) (w:Int) (eC:Bool):List bK:=
 if(aM g w).aQ=1/\eC=true then g.set (ix w) ⟨-1,0,dt (aM g w).aH.length⟩else apart g w
def DJ(S:ST t e m j bV (IB d p c s aU b g) aU b g s.aU s.heap q a r v h u)(ab:fQ s.heap w)(eC:Bool){az:Nat->Int}(N:fL s.heap az)(aZ:s.heap.length<=1000000000):
 aO cp 84 [vp j 0,vi w,vb eC] m λk A=>∃G:Bool,k=vb G/\(G=true<->(aM s.heap w).aQ=1/\eC=true)/\∃ax ar,ST t ax A j bV (IB d p c s aU ar g) aU ar g s.aU (sg s.heap w eC) q a r v h u/\To e m ax A:=by
 apply vv (j,0)
 simp -zeta only[aD,aC]
 let⟨C,a7⟩:=bP ab
 have K:=aw C
 have a2:=S.cX.heap.len
 have a1:=ab.1
 have aJ:ix w=(w -1000).toNat:=rfl
 have e4:cG (w -1000)=w -1000:=aR V V
 have ag:=N.cell _ (aq C)
 have a4:=ag.hi
 have aX:=ag.fl
 have g8:af m j 8=some (O.v b):=S.cX.box.cq 8
 let⟨f0,Y,g1,g2,gf,gr⟩:=S.cX.heap.cq C
 have aY:=gf.len
 rw[e4,<-aJ]
 refine⟨b,g8,V,V,λA=>A=m/\¬((aM s.heap w).aQ=1/\eC=true),⟨_,Y,λy=>⟨λz=>?_,λz=>⟨rfl,λx=>by rw[z]at x;simp at x⟩⟩,λy=>⟨rfl,λx=>by simp at y;exact y x.1⟩⟩,?_⟩
 .simp at y
  have W:Int.toNat (f0.len:Int)=(aM s.heap w).aH.length:=V
  refine⟨f0,g2,V,de _,V,V,?_⟩
  rw[W]
  intro B
  have I:J m B:=(J.aA m).aL _
  have L:ig m B aB 1 (.mk m.size 0 (aM s.heap w).aH.length (aM s.heap w).aH.length) ((dt (aM s.heap w).aH.length).map Ce.i):=by
   have X:B=m.push (.cells (bz ((dt (aM s.heap w).aH.length).map Ce.i)) aB):=by rw[<-uj]
   rw[X];exact On _
  let⟨D,t1⟩:=S.ext I
  clear_value B
  refine⟨D.cX.heap.wr (o:=0) K bn,?_⟩
  intro m2
  let⟨F,E⟩:=D.cX.heap.setCell D.cX.new K (-1) 0 (ap.gC L (by rw[kH];omega)) (RG.of S.cX.heap (λx=>I.same _ (S.cX.heap.D x).2) (λ_=>L) (λ_=>S.cX.new _ (ad _)) S.cX.cA.size)
  let⟨H,t2⟩:=D.gD (E.mono λx z=>Or.inl z) F
  refine⟨true,rfl,by simp[y,z],e,b,?_,t1.trans t2⟩
  rw[sg,ao ⟨y,z⟩];exact H
 .rintro B ⟨rfl,an⟩
  have ak:(false=true<->(aM s.heap w).aQ=1/\eC=true):=⟨sx,λh=>absurd h an⟩
  rw[show sg s.heap w eC=apart s.heap w by rw[sg,ae an]]
  refine⟨_,Y,λy=>?_,λy=>?_⟩
  .simp at y
   refine⟨S.cX.heap.wr (o:=0) K bn,?_⟩
   intro m2
   let⟨F,E⟩:=S.cX.heap.setCell S.cX.new K 0 0 (f:=.nil) (l:=[]) ⟨rfl,aN,aN,aN⟩ (λT=>absurd rfl T)
   let⟨H,t2⟩:=S.gD (E.mono λx z=>Or.inl z) F
   refine⟨b,H.cX.box.cq 8,?_⟩
   intro m3 m4
   let⟨D,Q,kb⟩:=H.OV
   refine(uR D.cX.heap D.cX.new kb (fK _ _ _) bG).mono ?_
   rintro _ Z ⟨aa,P,M⟩
   let⟨I,R⟩:=D.gD M aa
   refine⟨_,P.cq 0,I.cX.mK (i:=8) aN,?_⟩
   intro m6
   let⟨L,U⟩:=I.jF 8 [.s (b.cut 0 (jy (s.heap.set (ix w) ⟨0,0,[]⟩) (s.heap.set (ix w) ⟨0,0,[]⟩).length) 3)]
   refine⟨false,rfl,ak,_,b.cut 0 (jy (s.heap.set (ix w) ⟨0,0,[]⟩) (s.heap.set (ix w) ⟨0,0,[]⟩).length) 3,?_,((t2.trans Q).trans R).trans U⟩
   rw[apart,ao y];exact L
  .simp only[aj]at y
   have W:cG ((aM s.heap w).aQ -1)=(aM s.heap w).aQ -1:=aR V V
   refine⟨_,Y,S.cX.heap.wr (o:=0) K bn,?_⟩
   rw[W]
   intro m2
   let⟨F,E⟩:=S.cX.heap.rO S.cX.new C ((aM s.heap w).aQ -1)
   let⟨f1,k0,k1,k2,kf,kr⟩:=F.cq (eK C)
   simp only[]at kf kr
   have a0:=kf.len
   refine⟨f1,k2,?_⟩
   have ai:∀{A},dx (λx=>x=3) e B e A->af A j 8=some (O.v b):=λhc=>by rw[aI (hc.eC _ S.cX.box.lt (by rw[S.cX.QN];decide))];exact g8
   have am:∀k∈(aM s.heap w).aH,1000<=k->fQ (fu s.heap w) k:=λk D b=>SR ab y (N.field (aq C) D b)
   have aH:∀U∈fu s.heap w,-10<=U.aQ/\U.aQ<=999999:=λU hq=>by
    rcases nZ hq with rfl|⟨G,_,P⟩
    .simp only[];omega
    .have:=N.cell U (aq P);have h5:=this.lo;have h6:=this.hi;omega
   have aT:dx (λx=>x=3) e B e m2:=E
   refine dW (n:=(aM s.heap w).aH.length) V (λx A=>dO t.size e A b (iW (fu s.heap w) (lx ((aM s.heap w).aH.take x)))/\dx (λx=>x=3) e B e A/\ap A f1 (aM s.heap w).aH) ⟨F,E,kf⟩ ?_
   rintro x m3 aS μ z ⟨R,H,au⟩ av
   refine dit (λh5=>?_) λh5=>?_
   .let⟨k,D⟩:=cL ((aM s.heap w).aH) x
    have aQ:k<=9223372036854775807:=by
     rcases dT (1000<=k)with h6|h6
     .have:=aw (bP (N.field (aq C) (aq D) h6)).1;unfold ix at this;omega
     .omega
    have aP:(iW (fu s.heap w) (lx ((aM s.heap w).aH.take x))).length=s.heap.length:=by rw[wB];simp[fu]
    have aK:1000<=k->fQ (iW (fu s.heap w) (lx ((aM s.heap w).aH.take x))) k:=λb=>LC _ _ (λL I=>am L (dF (kM.1 I).1) (kM.1 I).2) k (am k (aq D) b)
    refine⟨V,V,k,by simpa using au.aF D,b,ai H,(iE (R.cells (by rw[aP];omega)) aQ).mono ?_⟩
    rintro _ m4 ⟨ay,G,rfl,P,aF,Z⟩
    have L:dx (λx=>x=3) e B e m4:=H.trans (dx.eI _ Z H.new)
    have I:=R.eJ (dx.eI (λ_=>False) Z H.new) id id
    have ac:=au.ext Z
    refine⟨ay,G,rfl,λah=>?_,λaG=>av V _ ⟨?_,L,ac⟩⟩
    .have al:=P.1 ah
     have aE:=aF ah
     subst aE
     let⟨Q,a5⟩:=bP al
     have aL:=aw Q
     have a3:=I.len
     obtain⟨f4,j0,_⟩:=I.cq Q
     have aW:=Av _ _ 999999 aH _ (aq Q)
     have a6:=ou ((aM s.heap w).aH.take x)
     have a8:((aM s.heap w).aH.take x).length<=3:=bG
     have X:cG ((aM (iW (fu s.heap w) (lx ((aM s.heap w).aH.take x))) k).aQ+1)=(aM (iW (fu s.heap w) (lx ((aM s.heap w).aH.take x))) k).aQ+1:=aR V V
     have aA:Int.toNat ((ix k:Nat):Int)=ix k:=V
     refine⟨b,ai L,?_⟩
     rw[aA]
     refine⟨V,V,_,j0,V,V,I.wr (o:=0) aL bn,?_⟩
     rw[X]
     let⟨aa,M⟩:=I.rO L.new Q ((aM (iW (fu s.heap w) (lx ((aM s.heap w).aH.take x))) k).aQ+1)
     refine av V _ ⟨?_,L.trans M,jb ac λT=>M.eC _ (iQ ac T) (by rw[(kr T).1];decide)⟩
     have:lx [k]=[k]:=by simp[lx,al.1]
     rw[aV D,pw,this,Ez]
     exact aa
    .have M:¬1000<=k:=λb=>fb P aG (aK b)
     have:lx [k]=[]:=by simp[lx];omega
     rw[aV D,pw,this,eg];exact I
   .rw[bZ V]at R
    let⟨I,t3⟩:=S.gD (H.mono λx z=>Or.inl z) R
    refine⟨false,rfl,ak,e,b,?_,t3⟩
    rw[apart,ae y];exact I
def JV(Y:ST t e m j bV (IB d p c s aU b g) aU b g s.aU s.heap q a r v h u){f:Instr}{aa al:O}(ha:ap t aa f.args)(aj:∀z∈f.args,0<=z/\z<a.ak.length)(aq:f.args.length<=4)(av:f.op=0\/f.op=1\/f.op=2\/f.op=3\/f.op=4\/f.op=5)(h5:f.op=5->f.args.length=1)(h2:f.op≠0->f.op≠5->f.args.length=2)(ac:f.op≠0->∀z∈f.args,gS (aF a.ak z))
 (ar:a.ak.length=a.aS.length/\a.ba.length=a.aS.length/\a.aS.length<=2000)(hd:0<=f.dst/\f.dst<a.aS.length)(aw:s.aU.length<=1000000000):
 aO cp 73 [vp j 0,vp g.D (g.off+q.length*6),xv f aa al] m λ_ w=>Ea t e m j d p c (if f.op=0 then{s with an:=q++[a.put f.dst f.bS 0]}else if f.op=5 then{s with aU:=s.aU++[aF a.ak (aF f.args 0)],an:=q++[a.put f.dst (aF a.ak (aF f.args 0)) 0]}else{s with an:=q++[a.put f.dst (O9 f.op (aF a.ak (aF f.args 0)) (aF a.ak (aF f.args 1))) 0]}) w:=by
 apply tF (j,0) (g.D,g.off+q.length*6)
 simp -zeta only[aD,aC]
 intro y
 have ak:J m y:=(J.aA m).aL _
 have s1:y.size=m.size+1:=by simp[y]
 let⟨K,t1⟩:=Y.ext ak
 have T:zG e y [m.size]:=λab C=>by simp at C;subst C;exact⟨V,Y.cX.new _ (ad _)⟩
 clear_value y
 have X:=K.fp ⟨V,V,V⟩
 refine(vx X.g3 X.ak (ha.ext K.cX.cA) aj V).mono ?_
 rintro _ l ⟨ws,rfl,ow,ai⟩
 let⟨A,t2⟩:=K.ext ai
 have I:=T.to t2
 have ax:(cQ a f.args).length=f.args.length:=by simp[cQ]
 have D:ap l ws (cQ a f.args):=ap.gC ow V
 have ay:=D.len
 have ah:=t1.trans t2
 have S:∀{F:Nat},F<f.args.length->(cQ a f.args)[F]? =some (aF a.ak (aF f.args F)):=λ{F} hk=>by
  let⟨z,hy⟩:=dG hk;simp[cQ,hy,Yq hy]
 have ag:∀{M:E}(hx:J l M)(H:Int),aO cp 74 [vp g.D (g.off+q.length*6),vi f.dst,vi H,vi 0] M λ_ w=>eF [m.size] M w/\Ea t e m j d p c {s with an:=q++[a.put f.dst H 0]} w:=λhx H=>by
  let⟨SM,tM⟩:=A.ext hx;refine(rI SM hd.1 V hd.2 H 0).mono ?_;rintro _ w ⟨S',t'⟩;exact⟨t'.dL (I.to tM),e,aU,b,g,S'.cX,(ah.trans tM).trans t'⟩
 refine⟨t2.dL T,ws,rfl,λo=>?_,λn=>⟨λo=>?_,λN=>?_⟩⟩
 .simp at o;rw[ao o];exact ag (J.aA _) _
 .simp at n o
  rw[ae n,ao o]
  have h1:=h5 o
  have au:(O.len aU)=s.aU.length:=by have:=A.cX.aU.len;simp at this;omega
  refine⟨V,V,_,D.aF (k:=0) (S V),aU,A.cX.box.cq 7,?_⟩
  intro G
  have B:J l G:=(J.aA l).aL _
  have jD:fS G l.size 0 [.i (aF a.ak (aF f.args ((0:Nat):Int)))]:=(cK.push l _ _).iL
  let⟨L,t3⟩:=A.ext B
  have U:=I.to t3
  clear_value G
  refine iR.append (zs:=[.i 0]) (x:=.mk l.size 0 1 1) (c:=[.i (aF a.ak (aF f.args 0))]) L.cX.aU L.cX.new rfl jD (by simp only[O.gL];omega) λaf P m4 q1 q2=>?_
  have am:iR af m4 aB 1 2 P ((s.aU++[aF a.ak (aF f.args 0)]).map Ce.i):=by simpa using q1
  let⟨Z,Q⟩:=L.Ix q2 am
  have W:=U.to Q
  refine⟨Q.dL U,Z.cX.mK (i:=7) aN,?_⟩
  intro m5
  let⟨S5,R⟩:=Z.jF 7 [.s P]
  refine⟨R.dL W,(rI S5 hd.1 V hd.2 (aF a.ak (aF f.args 0)) 0).mono ?_⟩
  rintro _ m6 ⟨S6,t6⟩
  exact⟨t6.dL (W.to R),af,P,b,g,S6.cX,(((ah.trans t3).trans Q).trans R).trans t6⟩
 .simp at n N
  rw[ae n,ae N]
  have h1:=h2 n N
  refine⟨V,V,_,D.aF (k:=0) (S V),V,V,_,D.aF (k:=1) (S V),?_⟩
  refine(OW (ac n _ (fq V V)) (ac n _ (fq V V)) l).mono ?_
  rintro _ G ⟨rfl,B⟩
  exact⟨B.dz (λab C=>(I ab C).1),_,rfl,ag B _⟩
end
end
section
variable{b1 b2 b3 b k:Nat}{j:cV}{g:Int}{q:dC}{a:E}{e:List Int}
section
variable{y:E}{v:Nat->Nat}{u:E}{x:Nat}{d p aU z t:O}{c:Int}{s:St}{l:List aY}{f:aY}{r o h:O}{A:List (List Ce)}
def OX(S:ST y v u x bV (IB d p c s aU z t) aU z t s.aU s.heap l f r o h A){b:Instr}{m aB:O}(P:ap y m b.args)(ag:∀e∈b.args,0<=e/\e<f.ak.length)(au:1<=b.args.length/\b.args.length<=4)
 (aK:f.ak.length=f.aS.length/\f.ba.length=f.aS.length/\f.aS.length<=2000)(ay:s.heap.length<=1000000000)(aj:∀q∈f.aS,0<=q/\q<=999999)
 (az:fQ s.heap (aF f.ak (aF b.args 0))){am:Nat->Int}(hI:fL s.heap am){R:Int}(ak:f.pc=R+1):
 aO cp 79 [vp x 0,vp t.D (t.off+l.length*6),xv b m aB] u λ_ a=>Ea y v u x d p c (tJ s l {f with pc:=R} b) a:=by
 apply wi (x,0) (t.D,t.off+l.length*6)
 simp -zeta only[aD,aC]
 intro L
 have aA:J u L:=(J.aA u).aL _
 have s1:L.size=u.size+1:=by simp[L]
 let⟨N,t1⟩:=S.ext aA
 have B1:zG v L [u.size]:=λac G=>by simp at G;subst G;exact⟨V,S.cX.new _ (ad _)⟩
 clear_value L
 have aP:r.len=f.ak.length:=by have:=S.fW.ak.len;simp at this;omega
 have aL:o.len=f.aS.length:=by have:=S.fW.aS.len;simp at this;omega
 have aJ:h.len=f.ba.length:=by have:=S.fW.ba.len;simp at this;omega
 have aG:=P.len
 have aE:=P.cap
 have F:0<=aF b.args 0/\aF b.args 0<f.ak.length:=ag _ (fq V V)
 have ga:∀{a},J y a->af a m.D (m.off+Int.toNat (0:Int)*1)=some (vi (aF b.args 0)):=λhx=>(P.ext hx).pO V V
 obtain⟨_,_,_,g3,_,_⟩:=N.fW.iL
 generalize hw:aF f.ak (aF b.args 0)=w at*
 refine⟨r,g3,V,V,_,ga N.cX.cA,F.1,V,w,by rw[<-hw];exact(N.Ax V).pO F.1 F.2,(DJ N az (b.op==17) hI ay).mono ?_⟩
 rintro _ m2 ⟨ac,rfl,G,C,H,K,t2⟩
 have T:=B1.to t2
 have ar:(b.op==17)=true<->b.op=17:=aN
 rw[ar]at G
 have e1:Int.toNat (1:Int)=1:=rfl
 have e2:Int.toNat (m.len:Int)=m.len:=V
 have Z:∀{a},J y a->ap a (O.cut m 1 m.len 1) (b.args.drop 1):=λhx=>Vl (P.ext hx) au.1
 have aH:(O.cut m 1 m.len 1).len=b.args.length -1:=by have:=(Z (J.aA y)).len;simp at this;omega
 have aI:(b.args.drop 1).length=b.args.length -1:=aN
 have ah:∀e∈b.args.drop 1,0<=e/\e<f.ak.length:=λe B=>ag e (xe B)
 rw[e1,e2]
 refine⟨t2.dL B1,ac,rfl,λax=>?_,λaw=>?_⟩
 .obtain⟨_,_,_,_,_,g5⟩:=K.fW.iL
  have Q:=G.1 ax
  refine⟨h,g5,V,V,_,ga K.cX.cA,F.1,V,K.fW.ba.Om F.1 V,?_⟩
  intro m3
  let⟨S3,t3⟩:=K.xG F.1 V w
  refine⟨t3.dL T,V,V,V,?_⟩
  refine dW (n:=(b.args.drop 1).length) V (λk a=>ST y C a x bV (IB d p c s aU H t) aU H t s.aU (sg s.heap w (b.op==17)) l {f with ba:=gA f.ba (aF b.args 0) w,aS:=dw f.aS ((b.args.drop 1).take k)} r o h A/\To v u C a/\zG C a [u.size]) ⟨by rw[List.take_zero];exact S3,(t1.trans t2).trans t3,(T.to t3)⟩ ?_
  rintro k m4 al μ hk ⟨g,M,I⟩ ab
  have aa:∀q∈dw f.aS ((b.args.drop 1).take k),0<=q/\q<=1000010:=λq hq=>by
   have:=rc _ f.aS 999999 V aj q hq;have h3:((b.args.drop 1).take k).length<=4:=bG;omega
  refine dit (λY=>?_) λY=>?_
  .let⟨e,B⟩:=cL (b.args.drop 1) k
   have j:=ah e (aq B)
   have D:e<(dw f.aS ((b.args.drop 1).take k)).length:=by rw[kA];omega
   have av:=FK (i:=e) aa V
   have W:cG (aF (dw f.aS ((b.args.drop 1).take k)) e+1)=aF (dw f.aS ((b.args.drop 1).take k)) e+1:=aR V V
   obtain⟨_,_,_,_,X,_⟩:=g.fW.iL
   refine⟨V,V,e,by simpa using(Z g.cX.cA).aF B,o,X,j.1,V,_,(g.JH (by simp only[kA];omega)).pO j.1 D,j.1,V,g.fW.aS.Om j.1 D,?_⟩
   rw[W]
   intro m5
   let⟨U,E⟩:=g.qd j.1 D (aF (dw f.aS ((b.args.drop 1).take k)) e+1)
   refine⟨E.dL I,ab V _ ⟨?_,M.trans E,I.to E⟩⟩
   rw[aV B,sQ];exact U
  .rw[bZ V]at g
   refine⟨C,aU,H,t,?_,M⟩
   have:tJ s l {f with pc:=R} b={s with heap:=sg s.heap w (b.op==17),an:=l++[{f with ba:=gA f.ba (aF b.args 0) w,aS:=dw f.aS (b.args.drop 1)}]}:=by
    unfold tJ;simp only[];rw[hw,ao Q,sg,ao (by simpa using Q),ak]
   rw[this];exact g.cX
 .have ai:¬((aM s.heap w).aQ=1/\b.op=17):=λQ=>by have:=G.2 Q;rw[aw]at this;simp at this
  refine⟨V,V,V,?_⟩
  refine dW (n:=(b.args.drop 1).length) V (λk a=>ST y C a x bV (IB d p c s aU H t) aU H t s.aU (sg s.heap w (b.op==17)) l {f with aS:=dw f.aS ((b.args.drop 1).take k)} r o h A/\To v u C a/\zG C a [u.size]) ⟨by simpa[dw]using K,t1.trans t2,T⟩ ?_
  rintro k m4 al μ hk ⟨g,M,I⟩ ab
  have aa:∀q∈dw f.aS ((b.args.drop 1).take k),0<=q/\q<=1000010:=λq hq=>by
   have:=rc _ f.aS 999999 V aj q hq;have h3:((b.args.drop 1).take k).length<=4:=bG;omega
  refine dit (λY=>?_) λY=>?_
  .let⟨e,B⟩:=cL (b.args.drop 1) k
   have j:=ah e (aq B)
   have D:e<(dw f.aS ((b.args.drop 1).take k)).length:=by rw[kA];omega
   have av:=FK (i:=e) aa V
   have W:cG (aF (dw f.aS ((b.args.drop 1).take k)) e+1)=aF (dw f.aS ((b.args.drop 1).take k)) e+1:=aR V V
   obtain⟨_,_,_,_,X,_⟩:=g.fW.iL
   refine⟨V,V,e,by simpa using(Z g.cX.cA).aF B,o,X,j.1,V,_,(g.JH (by simp only[kA];omega)).pO j.1 D,j.1,V,g.fW.aS.Om j.1 D,?_⟩
   rw[W]
   intro m5
   let⟨U,E⟩:=g.qd j.1 D (aF (dw f.aS ((b.args.drop 1).take k)) e+1)
   refine⟨E.dL I,ab V _ ⟨?_,M.trans E,I.to E⟩⟩
   rw[aV B,sQ];exact U
  .rw[bZ V]at g
   refine⟨C,aU,H,t,?_,M⟩
   have:tJ s l {f with pc:=R} b={s with heap:=sg s.heap w (b.op==17),an:=l++[{f with aS:=dw f.aS (b.args.drop 1)}]}:=by
    unfold tJ;simp only[];rw[hw,ae ai,sg,ae (by simpa using ai),ak]
   rw[this];exact g.cX
def nU.none{v:Nat->Nat}{u:E}:nU v u .nil []:=⟨[],iR.gC (ig.nil u u _ _) (λa=>absurd rfl a),rfl,aN,aN⟩
def Ib(S:ST y v u x bV (IB d p c s aU z t) aU z t s.aU s.heap l f r o h A)(ad:l.length<=100000)(w:Int)(U:∀g,l.getLast?=some g->0<=f.dst/\f.dst<g.ak.length/\f.dst<g.aS.length):
 aO cp 85 [vp x 0,vi w] u λ_ a=>Ea y v u x d p c (match l.getLast? with|none=>{s with cw:=0,value:=w,an:=[]}|some g=>{s with an:=l.dropLast++[g.put f.dst w (gP w)]}) a:=by
 apply sU (x,0)
 simp -zeta only[aD,aC]
 have G:=S.fW.yo
 have aa:=S.fW.qD.le
 have B:cG ((t.len:Int) -1)=(l.length:Int):=by rw[aR V V];omega
 have L:Int.toNat (l.length:Int)=l.length:=V
 have C:af u x 9=some (O.v t):=S.cX.box.cq 9
 obtain⟨_,_,g2,_,_,_⟩:=S.fW.iL
 refine⟨t,C,t,C,?_⟩
 rw[B,L]
 refine⟨V,V,f.dst,g2,t,C,V,V,V,S.cX.mK (i:=9) aN,?_⟩
 intro H
 let⟨q,t2⟩:=S.cX.jF 9 [.s (t.cut 0 l.length 6)]
 obtain⟨b,_⟩:=q.jR (dx.aA _ q.new) (q.an.Vx)
 have ab:(t.cut 0 l.length 6).len=l.length:=by
  cases t with
  |nil=>simp at G
  |zX j I k=>simp at G
  |mk j I e c=>simp[O.cut]
 have e3:Int.toNat (0:Int)=0:=rfl
 refine⟨λD=>?_,λD=>?_⟩
 .have J:l=[]:=by simpa using D
  subst J
  refine⟨b.mK (i:=3) (by simp[ly]),?_⟩
  intro X
  let⟨j,t3⟩:=b.jF 3 [.i 0]
  refine⟨j.mK (i:=4) (by simp[ly]),?_⟩
  intro Y
  let⟨k,E⟩:=j.jF 4 [.i w]
  refine⟨k.mK (i:=9) (by simp[ly]),?_⟩
  intro K
  let⟨n,M⟩:=k.jF 9 [.s .nil]
  obtain⟨F,_⟩:=n.jR (dx.aA _ n.new) (nU.none (v:=v) (u:=K))
  exact⟨v,aU,z,.nil,F,((t2.trans t3).trans E).trans M⟩
 .have n:l≠[]:=by simpa using D
  have ae:l.length≠0:=λB=>n (List.length_eq_zero_iff.1 B)
  obtain⟨g,j⟩:∃g,l.getLast?=some g:=⟨_,gH n⟩
  let⟨P,Q,R⟩:=U g j
  rw[j]
  simp only[]
  have W:l=l.dropLast++[g]:=by
   rw[gH n]at j;simp at j;rw[<-j];exact(fy n).symm
  have k:vS y v H x bV (IB d p c s aU z (t.cut 0 l.length 6)) aU z (t.cut 0 l.length 6) s.aU s.heap (l.dropLast++[g]):=
   ⟨b.cA,b.jZ,b.new,b.box,b.QN,b.aU,b.heap,by rw[<-W];exact b.an⟩
  let⟨r',I,h',Z,T⟩:=k.an.fW
  have ac:l.dropLast.length=l.length -1:=aN
  have M:cG ((l.length:Int) -1)=((l.length -1:Nat):Int):=by rw[aR V V];omega
  have N:Int.toNat ((l.length -1:Nat):Int)=l.dropLast.length:=V
  refine⟨t.cut 0 l.length 6,k.box.cq 9,?_⟩
  rw[M,N]
  refine⟨V,V,(np w H).mono ?_⟩
  rintro _ X ⟨rfl,F⟩
  let⟨J,t3⟩:=(ST.mk k T).ext F
  refine⟨_,rfl,F.dg (k.box.cq 9),(rI J P Q R w (gP w)).mono ?_⟩
  rintro _ Y ⟨K,E⟩
  exact⟨v,aU,z,_,K.cX,(t2.trans t3).trans E⟩
end
def YW{m M:E}(j:J m M){nb:Nat}(o:m.size<=nb)(t:nb<M.size)(b:Nat)(i:List Ce)
 (c:(b1=M.size\/b1=M.size+1\/b1=M.size+2)/\(b2=M.size\/b2=M.size+1\/b2=M.size+2)/\(b3=M.size\/b3=M.size+1\/b3=M.size+2)/\b1≠b2/\b1≠b3/\b2≠b3):
 rC m (ai (((M.push (.cells (bz (mT [.i (0:Int)] b)) 3)).push (.cells (bz (mT [.i (0:Int)] b)) 3)).push (.cells (bz (mT [.i (0:Int)] b)) 3)) nb 0 i) b1 b2 b3 b (dt b) (dt b) (dt b):=by
 rw[uj]
 generalize d:M.push (.cells (bz ((dt b).map Ce.i)) 3)=m2
 generalize e:m2.push (.cells (bz ((dt b).map Ce.i)) 3)=m3
 generalize f:m3.push (.cells (bz ((dt b).map Ce.i)) 3)=m4
 have k:m2.size=M.size+1:=by simp[<-d]
 have l:m3.size=M.size+2:=by simp[<-e,k]
 have u:m4.size=M.size+3:=by simp[<-f,l]
 have s:J M m2:=d▸J.push _ _
 have n:J m2 m3:=e▸J.push _ _
 have h:J m3 m4:=f▸J.push _ _
 have p:cK m4 M.size aB ((dt b).map Ce.i):=((d▸cK.push M _ _:cK m2 M.size aB ((dt b).map Ce.i)).ext n).ext h
 have q:cK m4 m2.size aB ((dt b).map Ce.i):=(e▸cK.push m2 _ _:cK m3 m2.size aB ((dt b).map Ce.i)).ext h
 have r:cK m4 m3.size aB ((dt b).map Ce.i):=f▸cK.push m3 _ _
 have g:∀a,(a=M.size\/a=M.size+1\/a=M.size+2)->cK (ai m4 nb 0 i) a aB ((dt b).map Ce.i):=λa c=>by
  have:cK m4 a aB ((dt b).map Ce.i):=by
   rcases c with rfl|rfl|rfl
   .exact p
   .rw[<-k];exact q
   .rw[<-l];exact r
  exact this.congr (bg _ _ _ _ V)
 exact⟨(j.trans ((s.trans n).trans h)).ai o _ _,by have:=j.size;rw[ax];omega,g _ c.1,g _ c.2.1,g _ c.2.2.1,by simp[kH]⟩
def If{m:E}{d p:O}(f:fC m d p j)(o:0<=g)(h:j.cE[g.toNat]? =some q)(b:0<=q.ak/\q.ak<=2000)(e:Int):
 aO cp 146 [.agg #[O.v d,O.v p],vi g,vi e] m λv a=>∃b1 b2 b3,v=.agg #[vi g,vi 0,vi e,O.v (.mk b1 0 q.ak.toNat q.ak.toNat),O.v (.mk b2 0 q.ak.toNat q.ak.toNat),O.v (.mk b3 0 q.ak.toNat q.ak.toNat)]/\
  rC m a b1 b2 b3 q.ak.toNat (dt q.ak.toNat) (dt q.ak.toNat) (dt q.ak.toNat):=by
 apply CE
 simp -zeta only[aD,aC]
 intro k c
 have i:J m c:=((J.aA m).aL _).aL _
 have s:k.size=m.size+1:=by simp[k]
 have C:c.size=m.size+2:=by simp[c,s]
 have y:=f.cE.len
 have x:=aw h
 clear_value c
 obtain⟨u,z,w,_,_,_,_,_,_,r,_⟩:=(f.ext i).cE.aF h
 refine⟨o,V,q.ak,r,⟨b.1,de _,V,V,?_⟩,⟨b.1,de _,V,V,?_⟩,⟨b.1,de _,V,V,?_⟩⟩
 all_goals
  intro l
  refine⟨⟨b.1,de _,V,V,?_⟩,⟨b.1,de _,V,V,?_⟩⟩
  all_goals
   intro n
   refine⟨b.1,de _,V,V,?_⟩
   intro A B
   have t:l.size=c.size+1:=by simp[l]
   have D:n.size=c.size+2:=by simp[n,t]
   exact⟨_,_,_,rfl,YW i V V q.ak.toNat _ V⟩
def rC.AE{d:E}{ak aS ba:List Int}(N:rC d a b1 b2 b3 b ak aS ba)(e:k<b)(v:Int):fO a b1 k 1/\rC d (ai a b1 k [.i v]) b1 b2 b3 b (ak.set k v) aS ba:=by
 have c:=N.lo;refine⟨N.kr.fO (by simp[N.len.1];omega),N.ext.ai c.1 _ _,by rw[ax];exact c,?_,N.ko.congr (bg _ _ _ _ V),N.kh.congr (bg _ _ _ _ V),by simp[N.len]⟩;have:=cK.ai (m:=a) (o:=k) (r:=[.i v]) N.kr;rw[AB]at this;exact this
def rC.qd{d:E}{ak aS ba:List Int}(N:rC d a b1 b2 b3 b ak aS ba)(e:k<b)(v:Int):fO a b2 k 1/\rC d (ai a b2 k [.i v]) b1 b2 b3 b ak (aS.set k v) ba:=by
 have c:=N.lo;refine⟨N.ko.fO (by simp[N.len.2.1];omega),N.ext.ai c.2.1 _ _,by rw[ax];exact c,N.kr.congr (bg _ _ _ _ V),?_,N.kh.congr (bg _ _ _ _ V),by simp[N.len]⟩;have:=cK.ai (m:=a) (o:=k) (r:=[.i v]) N.ko;rw[AB]at this;exact this
def yw(cY:List Int):∀(e r:List Int)(k:Nat),dP cY k (e++r)=dP cY k e++dP cY (k+e.length) r
 |[],r,k=>by simp[dP]
 |b::e,r,k=>by
  have:=yw cY e r (k+1);simp only[df,dP,this,be];have a:k+(e.length+1)=k+1+e.length:=V;rw[a]
def MJ{k:Nat}(h:k<b):dt (b -k)=0::dt (b -(k+1)):=by
 have:b -k=(b -(k+1))+1:=V;rw[this];rfl
def V8(h:e.length<b)(v:Int):(e++dt (b -e.length)).set e.length v=(e++[v])++dt (b -(e.length+1)):=by
 rw[MJ h];simp
def YG(h:e.length<b):e++dt (b -e.length)=(e++[0])++dt (b -(e.length+1)):=by
 rw[MJ h];simp
section
variable{A:E}{t:Nat->Nat}{m:E}{z:Nat}{d p aU y v:O}{c:Int}{s:St}{u:List aY}{w:aY}{r o h:O}{B:List (List Ce)}
def Ge(W:ST A t m z bV (IB d p c s aU y v) aU y v s.aU s.heap u w r o h B)(aP:fC A d p j)(am:0<=g)(Z:j.cE[g.toNat]? =some q)(aS:0<=q.ak/\q.ak<=2000){ws:O}{b:List Int}(hw:ap m ws b)(aT:b≠[]->t ws.D=0)(bb:(b.length:Int)<=q.ak)(U:Instr)(ab aX:O)
 (a6:u.length<=10000)(a4:0<=s.bA/\s.bA<=100000):
 aO cp 83 [vp z 0,vi g,O.v ws,xv U ab aX] m λ_ a=>Ea A t m z d p c {s with bA:=s.bA+1,an:=if U.op=24 then u++[bY j g w.dst b]else u++[w,bY j g U.dst b]} a:=by
 apply wh (z,0)
 simp -zeta only[aD,aC]
 intro R
 have aW:J m R:=(J.aA m).aL _
 have s1:R.size=m.size+1:=by simp[R]
 let⟨S1,t1⟩:=W.ext aW
 have B1:zG t R [m.size]:=λC D=>by simp at D;subst D;exact⟨V,W.cX.new _ (ad _)⟩
 clear_value R
 have a5:=W.fW.yo
 have a0:=W.fW.qD.le
 have e0:cG (s.bA+1)=s.bA+1:=aR V V
 have aF:cG ((v.len:Int) -1)=(u.length:Int):=by rw[aR V V];omega
 have e2:Int.toNat (u.length:Int)=u.length:=V
 refine⟨s.bA,S1.cX.box.cq 5,S1.cX.mK (i:=5) aN,?_⟩
 rw[e0]
 intro m2
 let⟨P,t2⟩:=S1.jF 5 [.i (s.bA+1)]
 replace P:ST A t m2 z bV (IB d p c {s with bA:=s.bA+1} aU y v) aU y v s.aU s.heap u w r o h B:=P
 replace t2:To t R t m2:=t2
 have B2:=B1.to t2
 have g9:af m2 z 9=some (O.v v):=P.cX.box.cq 9
 obtain⟨_,_,g2,_,_,_⟩:=P.fW.iL
 refine⟨t2.dL B1,v,g9,?_⟩
 rw[aF,e2]
 clear_value m2
 have ay:=t1.trans t2
 refine⟨λI a=>∃K X,vS A t a z bV (IB d p c {s with bA:=s.bA+1} aU y X) aU y X s.aU s.heap K/\To t m t a/\zG t a [m.size]/\K.length<=10001/\(if U.op=24 then u++[bY j g w.dst b]else u++[w,bY j g U.dst b])=K++[bY j g I b],⟨λT=>?_,λT=>?_⟩,?_⟩
 .simp at T
  refine⟨v,g9,V,V,w.dst,g2,v,g9,V,V,V,P.cX.mK (i:=9) aN,?_⟩
  intro Q
  let⟨G,t3⟩:=P.cX.jF 9 [.s (v.cut 0 u.length 6)]
  obtain⟨k,_⟩:=G.jR (dx.aA _ G.new) (G.an.Vx)
  refine⟨t3.dL B2,u,v.cut 0 u.length 6,k,ay.trans t3,B2.to t3,V,?_⟩
  rw[ao T]
 .simp at T
  refine⟨u++[w],v,P.cX,ay,B2,bG,?_⟩
  rw[ae T];simp
 rintro I Q ⟨K,X,G,t3,B3,hX,aH⟩
 rw[aH]
 have ah:dR j g=q:=by simp[dR,Z]
 have ag:=aP.ext G.cA
 refine⟨d,G.box.cq 0,p,G.box.cq 1,(If ag am Z aS I).mono ?_⟩
 rintro _ L ⟨b1,b2,b3,rfl,aa⟩
 have a7:=aa.lo
 have al:∀C∈[m.size],C<Q.size:=λC D=>(B3 C D).1
 have a9:m.size<Q.size:=al _ aN
 refine⟨aa.ext.dz al,_,_,_,_,_,_,rfl,?_⟩
 intro m5 m6
 have aG:J L m6:=((J.aA L).aL _).ai (ad _) _ _
 have s6:m6.size=L.size+1:=by simp[m6,m5,ax]
 have N6:=aa.SK aG
 clear_value m6
 have ba:=hw.len
 have iw:∀{M},J Q M->ap M ws b:=λhx=>(jb hw λk=>t3.eC _ (iQ hw k) (by rw[aT k];decide)).ext hx
 obtain⟨pa,pl,pc,_,aM,_,_,k1,_,_,_⟩:=ag.cE.aF Z
 have a8:=aw Z
 have a_:=ag.cE.len
 have aq:∀(k:Nat),(q.cY.any λF=>F==(k:Int))=true<->(k:Int)∈q.cY:=λk=>aN
 simp -zeta only[O.jJ,O.nt,O.gL,bW]
 refine dW (n:=b.length) V (λk a=>rC Q a b1 b2 b3 q.ak.toNat (b.take k++dt (q.ak.toNat -k)) (dP q.cY 0 (b.take k)++dt (q.ak.toNat -k)) (dt q.ak.toNat)/\L.size<a.size) ⟨by simpa[dP]using N6,V⟩ ?_
 rintro k H aZ μ hk ⟨S,s7⟩ ar
 have tQ:∀{ma mc:E},(∀C,C=L.size\/C=m.size->mc[C]? =ma[C]?)->eF [L.size,m.size] ma mc:=λhh C D=>hh C (by simpa using D)
 have tk:(b.take k).length=k:=bG
 have au:(dP q.cY 0 (b.take k)).length=k:=by rw[mr,tk]
 refine dit (λh1=>?_) λh1=>?_
 .let⟨F,hy⟩:=cL b k
  have ek:Int.toNat (k:Int)*1=k:=V
  have aj:k<q.ak.toNat:=V
  let⟨w8,N⟩:=S.AE aj F
  have er:(b.take k++dt (q.ak.toNat -k)).set k F=b.take (k+1)++dt (q.ak.toNat -(k+1)):=by
   have:=V8 (e:=b.take k) (b:=q.ak.toNat) V F;rw[tk]at this;rw[this,aV hy]
  rw[er]at N
  have eo:dP q.cY 0 (b.take (k+1))=dP q.cY 0 (b.take k)++[if q.cY.any (λF=>F==(k:Int))then 0 else gP F]:=by
   rw[aV hy,yw,tk];simp[dP]
  refine⟨V,V,F,by simpa using(iw S.ext).aF hy,V,V,?_⟩
  rw[ek]
  refine⟨w8,?_⟩
  intro m8
  have s8:m8.size=H.size:=ax _ _ _ _
  refine⟨tQ λC D=>bg _ _ _ _ V,?_⟩
  replace N:rC Q m8 b1 b2 b3 q.ak.toNat (b.take (k+1)++dt (q.ak.toNat -(k+1))) (dP q.cY 0 (b.take k)++dt (q.ak.toNat -k)) (dt q.ak.toNat):=N
  clear_value m8
  refine⟨p,N.ext.af (G.box.cq 1),am,V,pl,N.ext.af k1,(ms (aM.ext N.ext) _).mono ?_⟩
  rintro _ m9 ⟨C,rfl,D,ac⟩
  have N9:=N.SK ac
  have s9:=ac.size
  refine⟨ac.dz bG,C,rfl,λaz=>?_,λav=>?_⟩
  .have aA:¬((k:Int)∈q.cY):=nb D az
   refine(np F m9).mono ?_
   rintro _ aK ⟨rfl,Y⟩
   have aL:=Y.size
   let⟨aJ,ai⟩:=(N9.SK Y).qd aj (gP F)
   have ak:(dP q.cY 0 (b.take k)++dt (q.ak.toNat -k)).set k (gP F)=dP q.cY 0 (b.take (k+1))++dt (q.ak.toNat -(k+1)):=by
    have:=V8 (e:=dP q.cY 0 (b.take k)) (b:=q.ak.toNat) V (gP F);rw[au]at this;rw[this,eo,ae (λhh=>aA ((aq k).1 hh))]
   rw[ak]at ai
   refine⟨Y.dz bG,_,rfl,aI (Y.same L.size V) 4,V,V,aJ,?_⟩
   intro aE
   refine⟨tQ λC D=>bg _ _ _ _ V,ar V _ ⟨ai,by simp only[aE,ax];omega⟩⟩
  .have Y:(k:Int)∈q.cY:=yb D av
   refine ar V _ ⟨?_,V⟩
   have:=YG (e:=dP q.cY 0 (b.take k)) (b:=q.ak.toNat) V
   rw[au]at this
   rw[eo,ao ((aq k).2 Y),<-this];exact N9
 .have aQ:k=b.length:=V
  subst aQ
  rw[fB]at S
  have hc:dx (λ_=>False) t Q (pZ t b1 b2 b3 K.length) H:=S.eJ G.new
  let⟨a1,a2,a3⟩:=S.qD (a:=t) (g:=K.length)
  let⟨F,t7⟩:=G.gD (hc.mono λ_=>False.elim) (G.heap.eJ hc id id)
  have B7:zG (pZ t b1 b2 b3 K.length) H [L.size,m.size]:=λC D=>by
   simp at D;refine⟨V,?_⟩;unfold pZ;rw[eX V,eX V,eX V];rcases D with rfl|rfl
   .exact G.new _ V
   .exact(B3 _ aN).2
  refine⟨X,F.box.cq 9,?_⟩
  intro N
  have ac:J H N:=(J.aA H).aL _
  have jD:fS N H.size 0 [.i g,.i 0,.i I,.s (.mk b1 0 q.ak.toNat q.ak.toNat),.s (.mk b2 0 q.ak.toNat q.ak.toNat),.s (.mk b3 0 q.ak.toNat q.ak.toNat)]:=(cK.push H _ _).iL
  let⟨Y,az⟩:=F.ext ac
  have aj:=B7.to az
  clear_value N
  have ch:=λ{k:Nat}{s:O}{e:List Ce}(ab:iR (pZ t b1 b2 b3 K.length) H aB 1 k s e)=>ab.eJ (dx.eI (λ_=>False) ac F.new) id
  have aL:(bY j g I b).ak=b++dt (q.ak.toNat -b.length):=by simp[bY,ah]
  have aK:(bY j g I b).aS=dP q.cY 0 b++dt (q.ak.toNat -b.length):=by simp[bY,ah]
  have aJ:(bY j g I b).ba=dt q.ak.toNat:=by simp[bY,ah]
  refine⟨ac.dg (F.box.cq 9),nU.push Y.an Y.new (x:=.mk H.size 0 1 1) rfl (a:=bY j g I b) jD (by rw[aL];exact ch a1) (by rw[aK];exact ch a2) (by rw[aJ];exact ch a3) V λav qs aY q1 q2=>?_⟩
  have ai:To _ N av aY:=q2.mono λk hk=>V
  let⟨ak,bd⟩:=Y.jR (q2.mono λk hk=>V) q1
  refine⟨ai.dL aj,ak.mK (i:=9) aN,?_⟩
  intro bc
  let⟨aE,aA⟩:=ak.jF 9 [.s qs]
  exact⟨aA.dL (aj.to ai),av,aU,y,qs,aE,(((t3.trans t7).trans az).trans ai).trans aA⟩
end
end
section
def ME(ak:List Int):∀(b aS:List Int)(n:Int),(∀q∈aS,n<=q)->∀q∈bC ak aS b,n -b.length<=q
 |[],aS,n,h,q,c=>by have:=h q c;simp;omega
 |r::b,aS,n,h,q,c=>by
  have k:∀d,(∀q∈d,n -1<=q)->q∈bC ak d b->n -(r::b).length<=q:=λd j a=>by
   have:=ME ak b d (n -1) j q a;simp only[be];omega
  rw[bC]at c;refine k _ (λg a=>?_) c;split at a
  .rcases pU a with e|e
   .rcases aX r.toNat aS.length with f|f
    .let⟨y,i⟩:=dG f;have:=h y (aq i);rw[HU i]at e;omega
    .have:gA aS r (aF aS r -1)=aS:=by unfold gA;exact rX f
     rw[this]at a;have:=h g a;omega
   .have:=h g e;omega
  .have:=h g a;omega
section
variable{q:E}{g:Nat->Nat}{m:E}{k:Nat}{d p aU j c:O}{a:St}{b:List aY}{f:aY}{r t h:O}{u:List (List Ce)}
def Ri{z:cV}{v:Instr}(C:zE z a b f v){aS:List Int}(aH:aS=bC f.ak f.aS (bU z v))(hM:lA z a f v aS)
 (aa:ST q g m k bV (IB d p (cv z) a aU j c) aU j c a.aU a.heap b f r t h u)(a9:fC q d p z){ak aT:O}(ha:ap q ak v.args)(hj:ap q aT v.eN)(cF:a.heap.length<=900000000)(cM:a.aU.length<=900000000):
 aO cp 30 [vp k 0,vp c.D (c.off+b.length*6),xv v ak aT] m λ_ Q=>Ea q g m k d p (cv z) (fH z a b f v aS) Q:=by
 apply yP (k,0) (c.D,c.off+b.length*6)
 simp -zeta only[aD,aC]
 intro m1
 have cn:J m m1:=(J.aA m).aL _
 have s1:m1.size=m.size+1:=by simp[m1]
 let⟨S1,t1⟩:=aa.ext cn
 have B1:zG g m1 [m.size]:=λP hb=>by simp at hb;subst hb;exact⟨V,aa.cX.new _ (ad _)⟩
 clear_value m1
 have cH:=C.Gu
 have cJ:aS.length=f.aS.length:=by rw[aH];exact kC _ _ _
 have cR:r.len=f.ak.length:=by have:=aa.fW.ak.len;simp at this;omega
 have cI:t.len=f.aS.length:=by have:=aa.fW.aS.len;simp at this;omega
 have cy:=ha.len
 have bj:v.args.length<=4:=C.lL.1
 have cO:0<=f.pc/\f.pc<=100000:=by
  have cf:=C.F.pc;obtain⟨pq,_,cg,hP,_,_⟩:=C.I;rw[cg]at cf;have cP:=hP.len;omega
 have e4:cG (f.pc+1)=f.pc+1:=aR V V
 have cE:b.length<=1000:=by
  have bN:=C.ok.depth;have b9:=C.ok.bA;have cc:=C.ok.dX;rw[C.fr]at bN;simp at bN;omega
 refine(we (a9.ext S1.cX.cA) (S1.cX.box.cq 1) C.call (ha.ext S1.cX.cA) V C.lL.2.2.2.1).mono ?_
 rintro _ m2 ⟨ts,lt,rfl,ba,_,bg,bX,_⟩
 let⟨S2,t2⟩:=S1.ext bg
 have B2:=B1.to t2
 have cT:=Jm z v
 have bp:=ba.len
 have b0:bU z v≠[]->g ts.D=0:=λac=>by
  rcases bX with w|w|w
  .subst w;simp at bp;exact absurd (List.length_eq_zero_iff.1 bp.symm) ac
  .rw[w];refine aa.cX.jZ _ (iQ ha λh0=>?_);let⟨R,B⟩:=UX _ ac;have:=Cu B;rw[h0]at this;simp at this
  .exact aa.cX.new _ V
 refine⟨t2.dL B1,ts,lt,rfl,?_⟩
 refine dW (n:=(bU z v).length) V (λL Q=>ST q g Q k bV (IB d p (cv z) a aU j c) aU j c a.aU a.heap b {f with aS:=bC f.ak f.aS ((bU z v).take L)} r t h u/\To g m2 g Q) ⟨S2,dx.aA _ S2.cX.new⟩ ?_
 rintro L m3 b5 μ hk ⟨S3,t3⟩ bq
 have B3:=B2.to t3
 have ca:(bC f.ak f.aS ((bU z v).take L)).length=f.aS.length:=kC _ _ _
 refine dit (λh1=>?_) λh1=>?_
 .let⟨R,B⟩:=cL (bU z v) L
  have A:=C.KD R (aq B)
  obtain⟨_,_,_,G,I,_⟩:=S3.fW.iL
  have K:ap m3 ts (bU z v):=jb ba λac=>t3.eC _ (iQ ba ac) (by rw[b0 ac];decide)
  have F:bC f.ak f.aS ((bU z v).take (L+1))=if 1000<=aF f.ak R then gA (bC f.ak f.aS ((bU z v).take L)) R (aF (bC f.ak f.aS ((bU z v).take L)) R -1)else bC f.ak f.aS ((bU z v).take L):=by
   rw[aV B,vm];rfl
  refine⟨V,V,R,by simpa using K.aF B,r,G,A.1,V,_,(S3.Ax (by show f.ak.length<=_;omega)).pO A.1 A.2,λT=>?_,λT=>?_⟩
  .simp only[oK,ar]at T
   have D:R<(bC f.ak f.aS ((bU z v).take L)).length:=V
   have M: -4<=aF (bC f.ak f.aS ((bU z v).take L)) R/\aF (bC f.ak f.aS ((bU z v).take L)) R<=999999:=by
    let⟨qq,aP,be⟩:=lD _ _ _ _ (kV A.1 D);have Y:=C.O8 qq (aq aP);have h8:=ME f.ak ((bU z v).take L) f.aS 0 (λau hq=>(C.O8 au hq).1) _ (fq A.1 D);have h9:((bU z v).take L).length<=4:=bG;omega
   have e5:cG (aF (bC f.ak f.aS ((bU z v).take L)) R -1)=aF (bC f.ak f.aS ((bU z v).take L)) R -1:=aR V V
   refine⟨t,I,A.1,V,_,(S3.JH (by show(bC _ _ _).length<=_;omega)).pO A.1 D,A.1,V,S3.fW.aS.Om A.1 D,?_⟩
   rw[e5]
   intro H
   let⟨y,t4⟩:=S3.qd A.1 D (aF (bC f.ak f.aS ((bU z v).take L)) R -1)
   refine⟨t4.dL B3,bq V _ ⟨?_,t3.trans t4⟩⟩
   rw[F,ao T];exact y
  .simp only[oK,bO]at T
   refine bq V _ ⟨?_,t3⟩
   rw[F,ae T];exact S3
 rw[bZ V,<-aH]at S3
 clear bq ca hk h1 b0 ba bX bp
 obtain⟨_,g1,_,_,_,_⟩:=S3.fW.iL
 refine⟨f.pc,g1,S3.fW.VF,?_⟩
 rw[e4]
 intro H
 let⟨y,t4⟩:=S3.Oi (f.pc+1)
 have K:zG g H [m.size]:=B3.to t4
 have b2:eF [m.size] m3 H:=t4.dL B3
 have Z:To g m g H:=((t1.trans t2).trans t3).trans t4
 clear t4
 replace y:ST q g H k bV (IB d p (cv z) a aU j c) aU j c a.aU a.heap b {f with aS:=aS,pc:=f.pc+1} r t h u:=y
 refine⟨b2,?_⟩
 clear b2 g1 S3 t3 B3 t2 B2 S2 bg b5 μ
 clear_value H
 have U:∀{M M':E},eF [m.size] M M'->∀am,af M' m.size am=af M m.size am:=λh am=>aI (h _ aN) am
 have hd:=C.dst
 have bl:f.ak.length=aS.length/\f.ba.length=aS.length/\aS.length<=2000:=V
 have ay:1<=v.args.length->0<=aF v.args 0/\aF v.args 0<f.ak.length:=λh1=>C.arg _ (fq V V)
 have ga:∀{Q},J q Q->1<=v.args.length->af Q ak.D (ak.off+Int.toNat (0:Int)*1)=some (vi (aF v.args 0)):=λhx h1=>(ha.ext hx).pO V V
 have gr:∀{g m bx aU j c lo av t h u own' pc'},ST q g m k bV bx aU j c lo av b {f with aS:=own',pc:=pc'} r t h u->∀{am:Int},0<=am->am<f.ak.length->af m r.D (r.off+Int.toNat am*1)=some (vi (aF f.ak am)):=λaa am h0 h1=>(aa.Ax (by simp only[];omega)).pO h0 h1
 have ag:∀{g m bx aU j c lo av t h u own' pc'},ST q g m k bV bx aU j c lo av b {f with aS:=own',pc:=pc'} r t h u->af m c.D (c.off+b.length*6+3)=some (O.v r):=λaa=>aa.fW.iL.2.2.2.1
 have cq:∀r',r'∈v.args->aF f.ak r'<1000->gS (aF f.ak r'):=λr' ci aQ=>by
  have bS:=C.arg r' ci;rcases C.F.So _ (fq bS.1 bS.2)with T|T
  .exact T
  .omega
 obtain⟨pq,_,_,_,_,hI⟩:=C.I
 have al:=hI.op
 clear hI
 have bs:∀{br:Nat->Nat}{bW:O}{av:List bK}{M:E}(SM:ST q br M k bV (IB d p (cv z) {a with heap:=av} aU bW c) aU bW c a.aU av b {f with aS:=aS,pc:=f.pc+1} r t h u)(tM:To g m br M)(BM:zG br M [m.size])(F bb:Int)(s':St),s'={a with heap:=av,an:=b++[aY.put {f with aS:=aS,pc:=f.pc+1} v.dst F bb]}->
  aO cp 74 [vp c.D (c.off+b.length*6),vi v.dst,vi F,vi bb] M λ_ Q=>eF [m.size] M Q/\Ea q g m k d p (cv z) s' Q:=λSM tM BM F bb s' w=>by
  refine(rI SM hd.1 (by show v.dst<f.ak.length;omega) (by show v.dst<aS.length;omega) F bb).mono ?_
  rintro _ Q ⟨S',t'⟩
  exact⟨t'.dL BM,_,aU,_,c,by rw[w];exact S'.cX,tM.trans t'⟩
 have bf:∀{M:E}(hx:J H M)(X:Int)(s':St),s'={a with an:=b++[{f with aS:=aS,pc:=X}]}->
  fO M c.D (c.off+b.length*6+1) 1/\eF [m.size] M (ai M c.D (c.off+b.length*6+1) [.i X])/\Ea q g m k d p (cv z) s' (ai M c.D (c.off+b.length*6+1) [.i X]):=λhx X s' w=>by
  let⟨SM,tM⟩:=y.ext hx
  let⟨S',t'⟩:=SM.Oi X
  exact⟨SM.fW.VF,t'.dL (K.to tM),g,aU,j,c,by rw[w];exact S'.cX,(Z.trans tM).trans t'⟩
 refine⟨λw=>?_,λe0=>?_⟩
 .simp only[bT,aG]at w
  refine(JV y ha C.arg bj w (λe5=>C.lL.2.1 (Or.inl e5)) (λe0 e5=>C.lL.2.2.1 V) (λe0 R B=>cq R B (hM.nX V R B)) bl ⟨hd.1,by show v.dst<aS.length;omega⟩ V).mono ?_
  rintro _ W ⟨aE,aW,aA,aJ,L5,B⟩
  refine⟨B.dL K,aE,aW,aA,aJ,?_,Z.trans B⟩
  have:fH z a b f v aS=(if v.op=0 then{a with an:=b++[aY.put {f with aS:=aS,pc:=f.pc+1} v.dst v.bS 0]}else if v.op=5 then{a with aU:=a.aU++[aF f.ak (aF v.args 0)],an:=b++[aY.put {f with aS:=aS,pc:=f.pc+1} v.dst (aF f.ak (aF v.args 0)) 0]}else{a with an:=b++[aY.put {f with aS:=aS,pc:=f.pc+1} v.dst (O9 v.op (aF f.ak (aF v.args 0)) (aF f.ak (aF v.args 1))) 0]}):=by
   unfold fH;simp only[];by_cases A:v.op=0
   .rw[ao A,ao A]
   rw[ae A,ae A];by_cases D:v.op=5
   .rw[ae V,ao D,ao D]
   .rw[ao V,ae D]
  rw[this];exact L5
 simp only[bu,aj]at e0
 have bd:¬(v.op=1\/v.op=2\/v.op=3\/v.op=4):=V
 have cr:∀F∈f.ba,F≠0->1000<=F/\ix F<a.heap.length:=λF hw ac=>by
  obtain⟨h1,dd,b_,_⟩:=C.Lz F hw ac;exact⟨h1,aw b_⟩
 refine⟨λw=>?_,λe6=>?_⟩
 .simp only[aG]at w
  have h6:=C.lL.2.2.2.2.1 w
  refine(Gi y ha C.arg bj bl ⟨h6.1,h6.2.1⟩ V cr).mono ?_
  rintro _ W ⟨aE,aA,A,N,rfl,S,B,er,eo,ep,ec⟩
  refine⟨B.dL K,_,rfl,U (B.dL K) 1,(rI S hd.1 (by rw[er];show v.dst<f.ak.length;omega) (by rw[eo];show v.dst<aS.length;omega) (1000+A) 1).mono ?_⟩
  rintro _ D ⟨G,I⟩
  refine⟨I.dL (K.to B),aE,aU,aA,c,?_,(Z.trans B).trans I⟩
  have Y:=ec f.pc
  have ab:N.pc=f.pc+1:=ep
  have h8:({N with pc:=f.pc+1}:aY)=N:=by rw[<-ab]
  rw[h8]at Y
  have:fH z a b f v aS=nL a b {f with aS:=aS} v v.bS:=by
   unfold fH nL;simp only[];rw[ae V,ae bd,ae V,ao w];rfl
  rw[this]
  have h9:nL a b {f with aS:=aS} v v.bS={a with heap:=jv a.heap A ⟨1,v.bS,cQ f v.args⟩,an:=b++[aY.put N v.dst (1000+A) 1]}:=Y
  rw[h9];exact G.cX
 simp only[aj]at e6
 have F4:FP H c.D (c.off+b.length*6) {f with aS:=aS,pc:=f.pc+1} r t h:=y.fp ⟨by show f.ak.length<=_;omega,by show aS.length<=_;omega,by show f.ba.length<=_;omega⟩
 have b4:∀{bt:Value->E->Prop},(∀ws M,ap M ws (cQ f v.args)->J H M->(cQ f v.args≠[]->g ws.D=0)->bt (O.v ws) M)->aO cp 77 [vp c.D (c.off+b.length*6),O.v ak] H bt:=λhk=>by
  refine(vx F4.g3 F4.ak (ha.ext y.cX.cA) C.arg V).mono ?_;rintro _ W ⟨ws,rfl,ow,ah⟩;have cm:(cQ f v.args).length=v.args.length:=by simp[cQ]
  have iw:ap W ws (cQ f v.args):=ap.gC (l:=cQ f v.args) ow V;refine hk ws W iw ah λac=>?_;rcases ow.D with w|w
  .subst w;have:=iw.len;simp at this;exact absurd (List.length_eq_zero_iff.1 this.symm) ac
  .exact y.cX.new _ w
 have bg:(eU z.br).length<=12:=by
  have:=rE C.ok.fm.ov.types z.br.length;rw[nk _ _ (ad _)]at this;exact this
 have cz:0<=cv z/\cv z<=12:=by unfold cv;omega
 refine⟨λw=>?_,λbv=>?_⟩
 .simp only[aG]at w
  have ab:=C.lL.2.2.2.2.2.1 w
  refine⟨cv z,y.cX.box.cq 2,b4 λws W iw ah _=>?_⟩
  let⟨S,B⟩:=y.ext ah
  have A:=K.to B
  have N:=B.dL K
  have Y:cG (cv z+v.bS)=cv z+v.bS:=aR V V
  refine⟨N,ws,rfl,U N 2,ah.dg (y.cX.box.cq 2),U N 1,?_⟩
  rw[Y]
  refine(DI S (cv z+v.bS) iw (by simp[cQ];omega) V).mono ?_
  rintro _ D ⟨rfl,bw,bh,G,I⟩
  have aX:=I.dL A
  refine⟨aX,_,rfl,U aX 1,bs (bW:=bh) (av:=jv a.heap (dJ a.heap) ⟨1,cv z+v.bS,cQ f v.args⟩) G ((Z.trans B).trans I) (A.to I) _ _ _ ?_⟩
  unfold fH;simp only[];rw[ae V,ae bd,ae V,ae e6,ao w]
 simp only[aj]at bv
 have Nj:fH z a b f v aS=(
  if v.op=14 then{a with heap:=mP a.heap (aF f.ak (aF v.args 0)),an:=b++[{f with aS:=gA aS (aF v.args 0) (aF aS (aF v.args 0)+1),pc:=f.pc+1}]}
  else if v.op=15 then{a with heap:=mZ (iz a.heap [aF f.ak (aF v.args 0)]),an:=b++[{f with aS:=aS,pc:=f.pc+1}]}
  else if v.op=16\/v.op=17 then tJ a b {f with aS:=aS} v
  else if v.op=18 then{a with an:=b++[aY.put {f with aS:=aS,pc:=f.pc+1} v.dst (aF f.ak (aF v.args 0)) (gP (aF f.ak (aF v.args 0)))]}
  else if v.op=19 then{a with an:=b++[aY.put {f with aS:=aS,pc:=f.pc+1} v.dst (aF (aM a.heap (aF f.ak (aF v.args 0))).aH v.bS) 0]}
  else if v.op=20 then{a with an:=b++[{f with aS:=aS,pc:=if aF f.ak (aF v.args 0)=0 then v.bS else f.pc+1}]}
  else if v.op=22 then{a with an:=b++[{f with aS:=aS,pc:=v.bS}]}
  else if v.op=21 then{a with an:=b++[{f with aS:=aS,pc:=aF v.eN (tD (cB z.br v.bS) (aM a.heap (aF f.ak (aF v.args 0))).kE)}]}
  else if v.op=9\/v.op=24 then{a with bA:=a.bA+1,an:=if v.op=24 then b++[bY z v.bS f.dst (cQ f v.args)]else b++[{f with aS:=aS,pc:=f.pc+1},bY z v.bS v.dst (cQ f v.args)]}
  else if v.op=11 then{a with bA:=a.bA+1,heap:=apart a.heap (aF f.ak (aF v.args 0)),an:=b++[{f with aS:=aS,pc:=f.pc+1},bY z ((aM a.heap (aF f.ak (aF v.args 0))).kE -cv z) v.dst ((aM a.heap (aF f.ak (aF v.args 0))).aH++[aF f.ak (aF v.args 1)])]}
  else match b.getLast? with|none=>{a with cw:=0,value:=aF f.ak (aF v.args 0),an:=[]}|some aK=>{a with an:=b.dropLast++[aK.put f.dst (aF f.ak (aF v.args 0)) (gP (aF f.ak (aF v.args 0)))]}):=by
  unfold fH
  simp only[]
  rw[ae V,ae bd,ae V,ae e6,ae bv]
  by_cases a0:v.op=14
  .rw[ao a0,ao a0]
  rw[ae a0,ae a0]
  by_cases a1:v.op=15
  .rw[ao a1,ao a1]
  rw[ae a1,ae a1]
  by_cases a2:v.op=16\/v.op=17
  .rw[ao a2,ao a2];rfl
  rw[ae a2,ae a2]
  by_cases a3:v.op=18
  .rw[ao a3,ao a3]
  rw[ae a3,ae a3]
  by_cases a4:v.op=19
  .rw[ao a4,ao a4]
  rw[ae a4,ae a4]
  by_cases a5:v.op=20
  .rw[ao a5,ao a5]
  rw[ae a5,ae a5]
  by_cases a6:v.op=21
  .rw[ao a6,ae V,ao a6]
  rw[ae a6]
  by_cases a7:v.op=22
  .rw[ao a7,ao a7]
  rw[ae a7,ae a7,ae a6]
  by_cases bc:v.op=9
  .rw[ao bc,ao (Or.inl bc),ae V]
  rw[ae bc]
  by_cases a8:v.op=24
  .rw[ao a8,ao (Or.inr a8),ao a8]
  rw[ae a8,ae (show¬(v.op=9\/v.op=24)by omega)]
  by_cases aZ:v.op=11
  .rw[ao aZ,ao aZ]
  rw[ae aZ,ae aZ]
  cases b.getLast?<;>rfl
 rw[Nj]
 clear Nj
 refine⟨λw=>?_,λbz=>?_⟩
 .simp only[aG]at w
  rw[ao w]
  have h2:=C.lL.2.1 V
  have A:=ay V
  let⟨ab,bB⟩:=hM.Xl w
  let⟨Y,a_⟩:=bP ab
  have aQ:=aw Y
  have bm:=y.cX.heap.len
  have bk:=ab.1
  have az:ix (aF f.ak (aF v.args 0))=(aF f.ak (aF v.args 0) -1000).toNat:=rfl
  have e5:cG (aF f.ak (aF v.args 0) -1000)=aF f.ak (aF v.args 0) -1000:=aR V V
  have bi:cG ((aM a.heap (aF f.ak (aF v.args 0))).aQ+1)=(aM a.heap (aF f.ak (aF v.args 0))).aQ+1:=aR V V
  obtain⟨f0,k0,_⟩:=y.cX.heap.cq Y
  refine⟨j,y.cX.box.cq 8,r,ag y,V,V,_,ga y.cX.cA V,A.1,V,_,gr y A.1 A.2,?_⟩
  rw[e5,<-az]
  refine⟨V,V,_,k0,V,V,y.cX.heap.wr (o:=0) aQ bn,?_⟩
  rw[bi]
  intro W
  let⟨bo,c5⟩:=y.cX.heap.rO y.cX.new Y ((aM a.heap (aF f.ak (aF v.args 0))).aQ+1)
  let⟨S,B⟩:=y.gD (c5.mono λL hk=>Or.inl hk) bo
  have aL:aF v.args 0<aS.length:=V
  have bD:0<=aF aS (aF v.args 0)/\aF aS (aF v.args 0)<=999999:=by
   refine⟨hM.nn _ (fq (l:=aS) A.1 aL),?_⟩;have hg:=kV (l:=aS) A.1 aL;rw[aH]at hg;let⟨qq,aP,be⟩:=lD _ _ _ _ hg;have:=(C.O8 qq (aq aP)).2;rw[<-aH]at be;omega
  have e7:cG (aF aS (aF v.args 0)+1)=aF aS (aF v.args 0)+1:=aR V V
  refine⟨B.dL K,t,S.fW.iL.2.2.2.2.1,V,V,_,ga S.cX.cA V,A.1,V,aF aS (aF v.args 0),(S.JH (by show aS.length<=_;omega)).pO A.1 aL,A.1,V,S.fW.aS.Om A.1 aL,?_⟩
  rw[e7]
  intro D
  let⟨G,I⟩:=S.qd A.1 aL (aF aS (aF v.args 0)+1)
  exact⟨I.dL (K.to B),g,aU,j,c,G.cX,(Z.trans B).trans I⟩
 simp only[aj]at bz
 rw[ae bz]
 refine⟨λw=>?_,λbB=>?_⟩
 .simp only[aG]at w
  rw[ao w]
  have h2:=C.lL.2.1 V
  have A:=ay V
  have bD:v.args=[aF v.args 0]:=by
   cases hx:v.args with
   |nil=>rw[hx]at h2;simp at h2
   |cons R aL=>cases aL with
    |nil=>rfl
    |cons bi aL=>rw[hx]at h2;simp at h2
  have bi:=C.HE aH hM.nn
  have ht:bU z v=[aF v.args 0]:=by unfold bU;rw[ao V];exact bD
  have bo:=bi.1
  rw[ht]at bo
  refine⟨j,y.cX.box.cq 8,?_⟩
  intro W D
  let⟨G,I,kb⟩:=y.OV
  have R:zG (oJ g H.size 5) D [m.size]:=K.to I
  replace G:ST q (oJ g H.size 5) D k bV (IB d p (cv z) a aU j c) aU j c a.aU a.heap b {f with aS:=aS,pc:=f.pc+1} r t h u:=G
  replace I:To g H (oJ g H.size 5) D:=I
  replace kb:cK D H.size eE [.s j]:=kb
  clear_value D
  refine⟨r,ag G,V,V,_,ga G.cX.cA V,A.1,V,_,gr G A.1 A.2,(Gj G.cX.heap G.cX.new kb (fK _ _ _) (W:=λP=>fD b P+di f.ak aS P) (bo.congr λP=>rfl) bi.2 V).mono ?_⟩
  rintro _ m7 ⟨bH,aL,bE,bF,c7⟩
  let⟨S7,t7⟩:=G.gD c7 bE
  refine⟨t7.dL R,aL,bF.cq 0,S7.cX.mK (i:=8) aN,?_⟩
  intro m8
  let⟨S8,t8⟩:=S7.jF 8 [.s aL]
  exact⟨t8.dL (R.to t7),bH,aU,aL,c,S8.cX,((Z.trans I).trans t7).trans t8⟩
 simp only[aj]at bB
 rw[ae bB]
 refine⟨λw=>?_,λb6=>?_⟩
 .simp only[bT,aG]at w
  rw[ao w]
  refine(OX y ha C.arg ⟨C.lL.2.2.2.1 w,bj⟩ bl V (λau hq=>?_) (hM.LN w).1 C.ok.heap (show f.pc+1=f.pc+1 from rfl)).mono ?_
  .refine⟨hM.nn au hq,?_⟩
   let⟨L,hk⟩:=List.mem_iff_getElem?.1 hq
   simp only[]at hk
   rw[aH]at hk
   let⟨qq,aP,be⟩:=lD _ _ _ _ hk
   have:=(C.O8 qq (aq aP)).2
   omega
  rintro _ W ⟨aE,aW,aA,aJ,L5,B⟩
  exact⟨B.dL K,aE,aW,aA,aJ,L5,Z.trans B⟩
 simp only[bu,aj]at b6
 rw[ae V]
 refine⟨λw=>?_,λbD=>?_⟩
 .simp only[aG]at w
  rw[ao w]
  have h2:=C.lL.2.1 V
  have A:=ay V
  refine⟨r,ag y,V,V,_,ga y.cX.cA V,A.1,V,_,gr y A.1 A.2,(np _ _).mono ?_⟩
  rintro _ W ⟨rfl,ah⟩
  let⟨S,B⟩:=y.ext ah
  have N:=B.dL K
  exact⟨N,_,rfl,U N 1,bs (av:=a.heap) S (Z.trans B) (K.to B) _ _ _ rfl⟩
 simp only[aj]at bD
 rw[ae bD]
 refine⟨λw=>?_,λbE=>?_⟩
 .simp only[aG]at w
  rw[ao w]
  have h2:=C.lL.2.1 V
  have A:=ay V
  let⟨ab,aL⟩:=hM.load w
  let⟨Y,a_⟩:=bP ab
  have aQ:=aw Y
  have bm:=y.cX.heap.len
  have bk:=ab.1
  have az:ix (aF f.ak (aF v.args 0))=(aF f.ak (aF v.args 0) -1000).toNat:=rfl
  have e5:cG (aF f.ak (aF v.args 0) -1000)=aF f.ak (aF v.args 0) -1000:=aR V V
  obtain⟨f0,_,_,k2,kf,_⟩:=y.cX.heap.cq Y
  have aP:=kf.len
  unfold mf at al
  rw[ae V,ae V,ae V,ae V,ae V,ae V,ae V,ao w]at al
  refine⟨j,y.cX.box.cq 8,r,ag y,V,V,_,ga y.cX.cA V,A.1,V,_,gr y A.1 A.2,?_⟩
  rw[e5,<-az]
  exact⟨V,V,f0,k2,al.2.1,V,_,kf.pO al.2.1 aL,bs (av:=a.heap) y Z K _ _ _ rfl⟩
 simp only[aj]at bE
 rw[ae bE]
 refine⟨λw=>?_,λbF=>?_⟩
 .simp only[aG]at w
  rw[ao w]
  have h2:=C.lL.2.1 V
  have A:=ay V
  refine⟨r,ag y,V,V,_,ga y.cX.cA V,A.1,V,_,gr y A.1 A.2,λT=>?_,λT=>?_⟩
  .simp at T;exact bf (J.aA _) _ _ (by rw[ao T])
  .simp at T;exact⟨g,aU,j,c,by rw[ae T];exact y.cX,Z⟩
 simp only[aj]at bF
 rw[ae bF]
 refine⟨λw=>?_,λbI=>?_⟩
 .simp only[aG]at w
  rw[ao w]
  exact bf (J.aA _) _ _ rfl
 simp only[aj]at bI
 rw[ae bI]
 refine⟨λw=>?_,λbH=>?_⟩
 .simp only[aG]at w
  rw[ao w]
  have h2:=C.lL.2.1 V
  have A:=ay V
  let⟨ab,bo⟩:=hM.Fy w
  let⟨Y,a_⟩:=bP ab
  have aQ:=aw Y
  have bm:=y.cX.heap.len
  have bk:=ab.1
  have az:ix (aF f.ak (aF v.args 0))=(aF f.ak (aF v.args 0) -1000).toNat:=rfl
  have e5:cG (aF f.ak (aF v.args 0) -1000)=aF f.ak (aF v.args 0) -1000:=aR V V
  obtain⟨f0,_,k1,_⟩:=y.cX.heap.cq Y
  unfold mf at al
  rw[ae V,ae V,ae V,ae V,ae V,ae V,ae V,ae V,ae V,ae V,ao w]at al
  have bL:tD (cB z.br v.bS) (aM a.heap (aF f.ak (aF v.args 0))).kE<(cB z.br v.bS).length:=uo ⟨_,bo,aN⟩
  have bQ:=hj.len
  have bM:=al.2.2.1
  refine⟨j,y.cX.box.cq 8,r,ag y,V,V,_,ga y.cX.cA V,A.1,V,_,gr y A.1 A.2,?_⟩
  rw[e5,<-az]
  refine⟨V,V,_,k1,d,y.cX.box.cq 0,(tE (a9.ext y.cX.cA).br C.ok.fm.ov.types v.bS).mono ?_⟩
  rintro _ W ⟨cs,rfl,bJ,ah⟩
  let⟨S,B⟩:=y.ext ah
  have N:=B.dL K
  refine⟨N,cs,rfl,U N 5,(sJ bJ _).mono ?_⟩
  rintro _ D ⟨ri,rfl,aL,be⟩
  let⟨G,I⟩:=S.ext aL
  have aX:=I.dL (K.to B)
  have bi:ri=tD (cB z.br v.bS) (aM a.heap (aF f.ak (aF v.args 0))).kE:=by
   rcases be with⟨_,aP⟩|⟨_,he⟩
   .exact absurd bo aP
   .exact he
  subst bi
  exact⟨aX,_,rfl,U aX 5,V,V,_,(hj.ext G.cX.cA).pO V V,bf (ah.trans aL) _ _ rfl⟩
 simp only[aj]at bH
 rw[ae bH]
 have bM:0<=a.bA/\a.bA<=100000:=by
  have b9:=C.ok.bA;have cc:=C.ok.dX;omega
 have aX:=C.ok.fm
 refine⟨λw=>?_,λe9=>?_⟩
 .simp only[bT,aG]at w
  rw[ao w]
  unfold mf at al
  rw[ae V,ae V,ae V,ae V,ao w]at al
  let⟨au,be,aL,bL⟩:=al
  have cj:=(aX.dD au (aq aL)).ak
  have h3:=(aX.ov.dD au (aq aL)).1
  have cm:(cQ f v.args).length=v.args.length:=by simp[cQ]
  refine b4 λws W iw ah bi=>?_
  let⟨S,B⟩:=y.ext ah
  have N:=B.dL K
  refine⟨N,ws,rfl,U N 0,U N 1,U N 2,U N 3,U N 4,U N 5,U N 2,(Ge S a9 be aL V iw bi V v ak aT V bM).mono ?_⟩
  rintro _ D ⟨bw,bJ,bh,aP,L6,I⟩
  exact⟨I.dL (K.to B),bw,bJ,bh,aP,L6,(Z.trans B).trans I⟩
 simp only[bu,aj]at e9
 rw[ae V]
 refine⟨λw=>?_,λbw=>?_⟩
 .simp only[aG]at w
  rw[ao w]
  have h2:=C.lL.2.2.1 V
  have A:=ay V
  have bi:0<=aF v.args 1/\aF v.args 1<f.ak.length:=C.arg _ (fq V V)
  let⟨ab,ck,cS,ce,cb,cC⟩:=hM.apply w
  let⟨Y,a_⟩:=bP ab
  have bL:=C.ok.heap.cell _ (aq Y)
  have cD:=bL.fl
  have bo:=(bL.ph a_).2
  have aQ:=aw Y
  have bm:=y.cX.heap.len
  have bk:=ab.1
  have az:ix (aF f.ak (aF v.args 0))=(aF f.ak (aF v.args 0) -1000).toNat:=rfl
  have e5:cG (aF f.ak (aF v.args 0) -1000)=aF f.ak (aF v.args 0) -1000:=aR V V
  let⟨f0,k0,k1,k2,kf,kr⟩:=y.cX.heap.cq Y
  refine⟨r,ag y,V,V,_,ga y.cX.cA V,A.1,V,_,gr y A.1 A.2,j,y.cX.box.cq 8,?_⟩
  rw[e5,<-az]
  generalize hw:aF f.ak (aF v.args 0)=F at*
  have gv:∀{g m bx aU j c lo av t h u own' pc'},ST q g m k bV bx aU j c lo av b {f with aS:=own',pc:=pc'} r t h u->af m r.D (r.off+Int.toNat (aF v.args 1)*1)=some (vi (aF f.ak (aF v.args 1))):=λaa=>gr aa bi.1 bi.2
  generalize hv:aF f.ak (aF v.args 1)=X at*
  let⟨au,hq⟩:=cL z.cE (((aM a.heap F).kE -cv z).toNat)
  have ch:dR z ((aM a.heap F).kE -cv z)=au:=by simp[dR,hq]
  rw[ch]at ce cb
  have cj:=(aX.dD au (aq hq)).ak
  have h3:=(aX.ov.dD au (aq hq)).1
  refine⟨V,V,_,k0,_,k1,f0,k2,?_⟩
  intro W D
  have bh:J H D:=((J.aA H).aL _).ai (ad _) _ _
  have s6:D.size=H.size+1:=by simp[D,W,ax]
  let⟨G,I⟩:=y.ext bh
  clear_value D
  have R:zG g D [H.size,m.size]:=λP hb=>by
   simp at hb;rcases hb with rfl|rfl
   .exact⟨V,y.cX.new _ (ad _)⟩
   .exact K.to I _ aN
  have be:∀{M},J D M->af M ak.D (ak.off+Int.toNat (1:Int)*1)=some (vi (aF v.args 1)):=λhx=>(ha.ext (G.cX.cA.trans hx)).pO V V
  have ew:cG ((aM a.heap F).kE -cv z)=(aM a.heap F).kE -cv z:=aR V V
  have tail:∀{M:E}{es:O},J D M->ig D M aB 1 es (((aM a.heap F).aH++[X]).map Ce.i)->
   aO cp 84 [vp k 0,vi F,vb false] M λcu Q=>eF [H.size,m.size] M Q/\∃ct:Bool,cu=vb ct/\∃b3:Int,af Q k (0+2)=some (vi b3)/\
    aO cp 83 [vp k 0,vi (cG ((aM a.heap F).kE -b3)),O.v es,xv v ak aT] Q λ_ b1=>eF [H.size,m.size] Q b1/\Ea q g m k d p (cv z) {a with bA:=a.bA+1,heap:=apart a.heap F,an:=b++[{f with aS:=aS,pc:=f.pc+1},bY z ((aM a.heap F).kE -cv z) v.dst ((aM a.heap F).aH++[X])]} b1:=λ{M}{es} hx oe=>by
   let⟨SM,tM⟩:=G.ext hx
   have BM:=R.to tM
   have ie:ap M es ((aM a.heap F).aH++[X]):=ap.gC oe bG
   have bR:es.D<M.size:=iQ ie aN
   have bQ:g es.D=0:=by
    rcases oe.D with w|w
    .subst w;have:=ie.len;simp at this
    .exact G.cX.new _ w
   refine(DJ SM ab false C.ok.heap V).mono ?_
   rintro _ m8 ⟨P,rfl,_,cU,cN,S8,t8⟩
   have hK:sg a.heap F false=apart a.heap F:=by rw[sg,ae (sx)]
   rw[hK]at S8
   have co:ap m8 es ((aM a.heap F).aH++[X]):=jb ie λ_=>t8.eC _ bR (by rw[bQ];decide)
   refine⟨t8.dL BM,P,rfl,cv z,S8.cX.box.cq 2,?_⟩
   rw[ew]
   refine(Ge (s:={a with heap:=apart a.heap F}) S8 a9 ck hq V co (λ_=>by rw[t8.gY _ bR];exact bQ) bG v ak aT V bM).mono ?_
   rintro _ m9 ⟨cx,cs,cd,b7,L9,t9⟩
   refine⟨t9.dL (BM.to t8),cx,cs,cd,b7,?_,(((Z.trans I).trans tM).trans t8).trans t9⟩
   rw[ae V]at L9
   exact L9
  refine⟨r,ag G,V,V,_,be (J.aA _),bi.1,V,X,gv G,?_,?_⟩
  .refine(eO (kf.ext bh) V).mono ?_
   rintro _ m7 ⟨cl,rfl,oc,N⟩
   let⟨S7,t7⟩:=G.ext N
   have B7:=R.to t7
   refine⟨t7.dL R,cl,rfl,N.dg (gv G),N.dg (be (J.aA _)),aI (N.same m.size (R _ aN).1) 4,N.dg (ag G),?_⟩
   intro m8
   have S:J m7 m8:=(J.aA m7).aL _
   refine⟨aI (S.same H.size (B7 _ aN).1) 2,om oc N V λes m9 o9 aL=>⟨?_,tail aL o9⟩⟩
   intro P hb
   have aP:=(R P hb).1
   rw[aL.same P aP,S.same P (oh N.size),N.same P aP]
  .intro m7
   have N:J D m7:=(J.aA D).aL _
   have s7:m7.size=D.size+1:=by simp[m7]
   have jD:fS m7 D.size 0 [.i X]:=(cK.push D _ _).iL
   have b8:cK m7 D.size aB [.i X]:=cK.push D _ _
   clear_value m7
   let⟨S7,t7⟩:=G.ext N
   have B7:=R.to t7
   refine⟨aI (N.same H.size (R _ aN).1) 2,(eO (kf.ext (bh.trans N)) V).mono ?_⟩
   rintro _ m8 ⟨cl,rfl,oc,S⟩
   let⟨S8,t8⟩:=S7.ext S
   have cA:cl.len=(aM a.heap F).aH.length:=by have:=oc.len;simp at this;omega
   refine⟨t8.dL B7,cl,rfl,S.dg (gv S7),S.dg (be N),aI (S.same m.size (B7 _ aN).1) 4,S.dg (ag S7),?_⟩
   have bJ:=N.trans S
   refine ig.append (zs:=[.i 0]) (x:=.mk D.size 0 1 1) (d:=[.i X]) (oc.cA V) bJ rfl (b8.ext S).iL (by simp only[O.gL];omega) λes m9 o9 aL _ _ _ _=>⟨?_,tail aL (by simpa using o9)⟩
   intro P hb
   have aP:=(R P hb).1
   rw[aL.same P aP,bJ.same P aP]
 simp only[aj]at bw
 rw[ae bw]
 refine⟨λw=>?_,λI=>?_⟩
 .simp only[aG]at w
  have h2:=C.lL.2.1 V
  have A:=ay V
  refine⟨r,ag y,V,V,_,ga y.cX.cA V,A.1,V,_,gr y A.1 A.2,(Ib y V (aF f.ak (aF v.args 0)) (λaK hg=>?_)).mono ?_⟩
  .have ac:b≠[]:=λw=>by rw[w]at hg;simp at hg
   have D:b=b.dropLast++[aK]:=by
    rw[gH ac]at hg;simp at hg;rw[<-hg];exact(fy ac).symm
   have N:b.length=b.dropLast.length+1:=by
    have:=nE List.length D;simpa using this
   let⟨R,S,Y⟩:=C.ok.chain b.dropLast.length aK f (by rw[C.fr,D];simp) (by rw[C.fr,<-N];simp)
   have G:=C.ok.an aK (by rw[C.fr,D];simp)
   have:=G.lr
   have:=G.lo
   exact⟨R,by show f.dst<_;omega,by show f.dst<_;omega⟩
  rintro _ W ⟨aE,aW,aA,aJ,L5,B⟩
  exact⟨B.dL K,aE,aW,aA,aJ,L5,Z.trans B⟩
 simp only[aj]at I
 have:=C.ZG
 omega
end
end
section
section
variable{f:E}{e:Nat->Nat}{m:E}{b:Nat}{d p aU c a:O}{s:St}
def OY{h:cV}(L:vS f e m b bV (IB d p (cv h) s aU c a) aU c a s.aU s.heap s.an)(z:fC f d p h)(u:cW h s)(av:∀t∈s.an,∀w∈t.ak,w<=9223372036854775807)(ay:s.heap.length<=900000000)(aB:s.aU.length<=900000000):
 aO cp 13 [vp b 0] m λ_ I=>Ea f e m b d p (cv h) (j7 h s) I:=by
 apply wj (b,0)
 simp -zeta only[aD,aC]
 refine⟨s.cw,L.box.cq 3,λy=>?_,λy=>?_⟩
 .simp at y
  rw[th y]
  exact⟨e,aU,c,a,L,dx.aA _ L.new⟩
 have G:s.cw=3:=by simpa using y
 let⟨k,g,r⟩:=u.split G
 have az:s.an.getLast?=some g:=by rw[r];simp
 have au:s.an.dropLast=k:=by rw[r];simp
 have C:zE h s k g (cR h g):=⟨u,G,r,rfl,av⟩
 have aH:j7 h s=(open Classical in if ns (cR h g).op/\s.bA=s.dX then{s with cw:=1}else if lA h s g (cR h g) (bC g.ak g.aS (bU h (cR h g)))then fH h s k g (cR h g) (bC g.ak g.aS (bU h (cR h g)))else{s with cw:=2}):=by
  unfold j7;rw[ae (by simpa using G),az,au]
 rw[aH]
 generalize cR h g=x at*
 have N:vS f e m b bV (IB d p (cv h) s aU c a) aU c a s.aU s.heap (k++[g]):=by rw[<-r];exact L
 let⟨aj,ah,W,ak,T⟩:=N.an.fW
 have S:ST f e m b bV (IB d p (cv h) s aU c a) aU c a s.aU s.heap k g aj ah W ak:=⟨N,T⟩
 have aM:=T.yo
 have ab:=u.depth
 have aL:=u.bA
 have aS:=u.dX
 rw[r]at ab
 have aP:k.length<=1000:=by simp at ab;omega
 have e1:cG ((a.len:Int) -1)=(k.length:Int):=by rw[aR V V];omega
 have e2:Int.toNat (k.length:Int)=k.length:=V
 have U:af m b 9=some (O.v a):=S.cX.box.cq 9
 obtain⟨R,g1,_,_,_,_⟩:=T.iL
 let⟨aY,hq,aF,hP,aq,hI⟩:=C.I
 let⟨pa,pl,pc,aT,aW,ag,k0,k1,k2,k3,k4⟩:=z.cE.aF hq
 let⟨F,H,Y,hj,i0,i1,i2,i3,i4,i5⟩:=ag.aF aq
 have aX:=z.cE.len
 have aV:=ag.len
 have X:=C.F
 have aE:=X.fw
 have ac:=X.pc
 rw[aF]at ac
 have l:=S.cX.cA
 refine⟨a,U,a,U,?_⟩
 rw[e1,e2]
 refine⟨V,V,p,S.cX.box.cq 1,_,R,aE.1,V,pc,l.af k4,_,g1,ac.1,V,_,l.af i0,_,l.af i1,_,l.af i2,_,l.af i3,F,l.af i4,H,l.af i5,?_⟩
 intro m1
 have o:J m m1:=(J.aA m).aL _
 refine⟨o.dg (l.af i0),o.dg (l.af i1),o.dg (l.af i2),o.dg (l.af i3),o.dg (l.af i4),o.dg (l.af i5),o.dg g1,o.dg (l.af k4),o.dg R,o.dg (S.cX.box.cq 1),?_⟩
 intro n
 have aI:J m n:=o.ai (ad _) _ _
 have s2:n.size=m.size+1:=by simp[n,m1,ax]
 let⟨j,t2⟩:=S.ext aI
 have A:zG e n [m.size]:=λP l=>by simp at l;subst l;exact⟨V,S.cX.new _ (ad _)⟩
 clear_value n
 have aQ:=C.Gu
 have aG:({s with an:=k++[g]}:St)=s:=by rw[<-r]
 have aw:iK n a (k++[g]):=j.cX.an.Ey bG (λt w=>by
  have q:=u.an t (by rw[r];exact w);obtain⟨Q,_,B,v,_⟩:=q.Al u.fm;have D:=q.lr;have K:=q.lo;have M:=q.lh;rw[B]at D K M;have:=v.ak;omega)
 have am:RV n b 3 d p aU c a h s:=by
  have:RV n b 3 d p aU c a h {s with an:=k++[g]}:=⟨z.ext j.cX.cA,j.cX.box.cq 0,j.cX.box.cq 1,j.cX.box.cq 3,j.cX.box.cq 4,j.cX.box.cq 5,j.cX.box.cq 6,j.cX.box.cq 7,j.cX.box.cq 8,j.cX.box.cq 9,j.cX.aU.nX V,j.cX.heap.cells V,aw⟩;rw[aG]at this;exact this
 have F2:FP n a.D (a.off+k.length*6) g aj ah W:=j.fp ⟨V,V,V⟩
 have jV:¬(ns x.op/\s.bA=s.dX)->aO cp 29 [vp b 0,vp a.D (a.off+k.length*6),xv x F H] n λaJ v=>
  eF [m.size] n v/\∃K:Bool,aJ=vb K/\
  ((!K)=true->fO v b (0+3) 1/\let q:E:=ai v b (0+3) [.i (2:Int)]
   eF [m.size] v q/\Ea f e m b d p (cv h) (open Classical in if ns x.op/\s.bA=s.dX then{s with cw:=1}else if lA h s g x (bC g.ak g.aS (bU h x))then fH h s k g x (bC g.ak g.aS (bU h x))else{s with cw:=2}) q)/\
  ((!K)=false->aO cp 30 [vp b 0,vp a.D (a.off+k.length*6),xv x F H] v λt q=>
   eF [m.size] v q/\Ea f e m b d p (cv h) (open Classical in if ns x.op/\s.bA=s.dX then{s with cw:=1}else if lA h s g x (bC g.ak g.aS (bU h x))then fH h s k g x (bC g.ak g.aS (bU h x))else{s with cw:=2}) q):=λaA=>by
  refine(P8 am (j.cX.box.cq 2) C F2 (Y.ext j.cX.cA) V).mono ?_
  rintro _ m3 ⟨P,rfl,Z,al⟩
  let⟨B,t3⟩:=j.ext al
  have M:=A.to t3
  rw[ae aA]
  refine⟨t3.dL A,P,rfl,λq=>?_,λq=>?_⟩
  .rw[ae (nb Z q)]
   refine⟨B.cX.mK (i:=3) aN,?_⟩
   intro m4
   let⟨D,t⟩:=B.jF 3 [.i 2]
   refine⟨t.dL M,e,aU,c,a,?_,(t2.trans t3).trans t⟩
   have:=D.cX
   rw[<-r]at this
   exact this
  .have w:=yb Z q
   rw[ao w]
   refine(Ri C rfl w B z Y hj ay aB).mono ?_
   rintro _ m4 ⟨aK,ar,ap,aa,Q,t⟩
   exact⟨t.dL M,aK,ar,ap,aa,Q,(t2.trans t3).trans t⟩
 refine⟨λQ I=>I=n/\(Q=true<->ns x.op),⟨λq=>⟨rfl,by simp at q;simp[ns,q]⟩,λq=>⟨λw=>⟨rfl,by simp at w;simp[ns,w]⟩,λw=>⟨rfl,by simp at q w;simp[ns,q,w]⟩⟩⟩,?_⟩
 rintro Q m3 ⟨rfl,aa⟩
 refine⟨λar=>⟨s.bA,j.cX.box.cq 5,s.dX,j.cX.box.cq 6,λw=>?_,λw=>?_⟩,λap=>?_⟩
 .simp at w
  refine⟨j.cX.mK (i:=3) aN,?_⟩
  intro m4
  let⟨D,t⟩:=j.jF 3 [.i 1]
  refine⟨t.dL A,e,aU,c,a,?_,t2.trans t⟩
  rw[ao ⟨aa.1 ar,w⟩]
  have:=D.cX
  rw[<-r]at this
  exact this
 .simp at w
  exact jV λt=>w t.2
 .exact jV λt=>by have:=aa.2 t.1;rw[ap]at this;simp at this
end
end
end Go.Proofs.YtghjegjkpepmpaaGreat
section
namespace Go.Vc
def vZ{m:E}{b o:Nat}{v:Value}(h:(af m b o).isSome=true):af (rL m b o v) b o=some v:=by
 unfold af at h⊢;simp only[rL,lV,MQ];cases d:m[b]? with
 |none=>rw[d]at h;simp at h
 |some f=>
  rw[d]at h;cases f with
  |cells c g i=>
   simp only[]at h;have e:o<c.size:=by
    rcases aX o c.size with a|a
    .exact a
    .rw[Jp a]at h;simp at h
   simp[e]
  |_=>simp at h
def Lj{m:E}{c o a b:Nat}{v:Value}(h:a≠c\/b≠o):af (rL m c o v) a b=af m a b:=by
 by_cases d:a=c
 .subst d;have e:b≠o:=by rcases h with h|h;exact absurd rfl h;exact h
  unfold af;simp only[rL,lV,MQ];cases d:m[a]? with
  |none=>rfl
  |some f=>
   cases f with
   |cells g i j=>simp[kT e]
   |_=>rfl
 .exact aI (Mb _ _ _ _ d) _
def Q9(m:E)(c o:Nat)(v:Value)(a d:Nat):vY (rL m c o v) a d=vY m a d:=by
 by_cases b:a=c
 .subst b;unfold vY;simp only[rL,lV,MQ];cases b:m[a]? with
  |none=>rfl
  |some e=>
   cases e with
   |cells f g h=>rfl
   |_=>rfl
 .unfold vY;rw[Mb _ _ _ _ b]
structure UR(m:E)(k:Int)(pos:List (Nat×Nat))(m':E):Prop where
 size:m.size<=m'.size
 D:∀b,b<m.size->(∀p∈pos,p.1≠b)->m'[b]? =m[b]?
 cell:∀b o,b<m.size->(b,o)∉pos->af m' b o=af m b o
 vY:∀b o,b<m.size->Vc.vY m' b o=Vc.vY m b o
 int:∀p∈pos,∃n,af m' p.1 p.2=some (vi n)
 val:pos.Nodup->∀(j:Nat)(p:Nat×Nat),pos[j]? =some p->af m' p.1 p.2=some (vi (k+j))
def UR.nil{m c:E}(h:J m c)(k:Int):UR m k [] c:=
 ⟨h.size,λb a _=>h.same b a,λb o a _=>aI (h.same b a) o,λb o a=>by unfold Vc.vY;rw[h.same b a],aN,aN⟩
def UR.lY{m:E}{b o:Nat}(h:(af m b o).isSome=true)(k:Int):UR m k [(b,o)] (ai m b o [.i k]):=by
 refine⟨ur (ax _ _ _ _).symm,λc f d=>bg _ _ _ _ λe=>d (b,o) aN e.symm,λc q f d=>?_,λc q f=>Q9 _ _ _ _ _ _,λp a=>?_,λ_ j p a=>?_⟩
 .refine Lj ?_;by_cases e:c=b
  .right;intro g;subst e;subst g;simp at d
  .exact Or.inl e
 .simp at a;subst a;exact⟨k,vZ h⟩
 .cases j with
  |zero=>
   simp at a;subst a;have e:k+((0:Nat):Int)=k:=V;rw[e];exact vZ h
  |succ j=>simp at a
def UR.trans{m l n:E}{k:Int}{e p2:List (Nat×Nat)}(h:UR m k e l)(g:UR l (k+e.length) p2 n):UR m k (e++p2) n:=by
 have v:=h.size;refine⟨bJ h.size g.size,λc f b=>?_,λc o f b=>?_,λc o f=>?_,λp a=>?_,λhd j p a=>?_⟩
 .rw[g.D c V λp a=>b p (eG _ a),h.D c f λp a=>b p (bL _ a)]
 .rw[g.cell c o V λa=>b (eG _ a),h.cell c o f λa=>b (bL _ a)]
 .rw[g.vY c o V,h.vY c o f]
 .by_cases i:p∈p2
  .exact g.int p i
  .have d:p∈e:=by rcases List.mem_append.1 a with d|d;exact d;exact absurd d i
   let⟨q,b⟩:=h.int p d;exact⟨q,by rw[g.cell p.1 p.2 (mC b) i];exact b⟩
 .let⟨i,r,s⟩:=List.nodup_append.1 hd;by_cases u:j<e.length
  .rw[az u]at a;have d:p∈e:=gJ a;let⟨q,b⟩:=h.int p d;rw[g.cell p.1 p.2 (mC b) λt=>s p d p t rfl];exact h.val i j p a
  .rw[aK V]at a;have:=g.val r _ p a;have d:k+(e.length:Int)+((j -e.length:Nat):Int)=k+j:=V;rw[d]at this;exact this
inductive US where
 |nil
 |int (r:US)
 |sl (e r:US)
def US.size:US->Nat
 | .nil=>0
 | .int r=>r.size+1
 | .sl _ r=>r.size+1
inductive Tz where
 |iL (r:US)
 |Iv (e:US) (n:Nat)
inductive vW(m:E):Tz->Nat->Nat->List (Nat×Nat)->Prop where
 |nil (b o:Nat):vW m (.iL .nil) b o []
 |int {b o:Nat} {r:US} {p:List (Nat×Nat)} {n:Int} (h:af m b o=some (vi n)) (hf:Vc.vY m b o=false) (hr:vW m (.iL r) b (o+1) p):vW m (.iL (.int r)) b o ((b,o)::p)
 |sl {b o:Nat} {e r:US} {p1 p2:List (Nat×Nat)} {s:O} (h:af m b o=some (O.v s)) (hl:s.len<=9223372036854775807) (he:vW m (.Iv e s.len) s.D s.off p1) (hr:vW m (.iL r) b (o+1) p2):vW m (.iL (.sl e r)) b o (p1++p2)
 |zero (e:US) (b o:Nat):vW m (.Iv e 0) b o []
 |succ {b o n:Nat} {e:US} {p1 p2:List (Nat×Nat)} (he:vW m (.iL e) b o p1) (hr:vW m (.Iv e n) b (o+e.size) p2):vW m (.Iv e (n+1)) b o (p1++p2)
def vW.nX{m:E}{K:Tz}{f o:Nat}{e:List (Nat×Nat)}(h:vW m K f o e):∀p∈e,∃n,af m p.1 p.2=some (vi n):=by
 induction h with
 |nil=>simp
 |int h c d b=>
  intro p a;rcases List.mem_cons.1 a with rfl|a
  .exact⟨_,h⟩
  .exact b p a
 |sl h i g d b c=>
  intro p a;rcases List.mem_append.1 a with a|a
  .exact b p a
  .exact c p a
 |zero=>simp
 |succ g d b c=>
  intro p a;rcases List.mem_append.1 a with a|a
  .exact b p a
  .exact c p a
def vW.lt{m:E}{K:Tz}{b o:Nat}{a:List (Nat×Nat)}(h:vW m K b o a):∀p∈a,p.1<m.size:=λp d=>let⟨_,c⟩:=h.nX p d;mC c
def UH(n:Int)(s:O):vi n≠O.v s:=by cases s<;>simp[vi,O.v]
def vW.aab{m j:E}{u:Int}{q:List (Nat×Nat)}(g:UR m u q j)(t:∀p∈q,∃n,af m p.1 p.2=some (vi n)){K:Tz}{b o:Nat}{k:List (Nat×Nat)}(h:vW m K b o k):vW j K b o k:=by
 induction h with
 |nil=>exact .nil _ _
 | @int b o v p n h d i e=>
  have a:=mC h;by_cases c:(b,o)∈q
  .let⟨l,f⟩:=g.int _ c;exact .int f (by rw[g.vY b o a];exact d) e
  .exact .int (by rw[g.cell b o a c];exact h) (by rw[g.vY b o a];exact d) e
 | @sl b o w v x p2 l h r p i d e=>
  have a:=mC h;refine .sl (s:=l) ?_ r d e;rw[g.cell b o a λc=>?_]
  .exact h
  .let⟨n,f⟩:=t _ c;rw[h]at f;exact UH n l (jS f).symm
 |zero=>exact .zero _ _ _
 |succ p i d e=>exact .succ d e
def vW.ext{m a:E}(d:J m a){K:Tz}{b o:Nat}{c:List (Nat×Nat)}(h:vW m K b o c):vW a K b o c:=h.aab (UR.nil d 0) aN
end Go.Vc
namespace Go.Proofs.YtghjegjkpepmpaaGreat
open Go.Vc
end Go.Proofs.YtghjegjkpepmpaaGreat
end
namespace Go.Proofs.YtghjegjkpepmpaaGreat
open Go.Vc
section
section
variable{m:E}{s t:O}{l r:List Int}
def lj(f:ap m s l)(i:ap m t r):dy cp 17 [O.v s,O.v t] m (l=r):=by
 apply Ao;have o:=f.len;have v:=i.len;refine⟨λh=>bX (λe=>?_) (J.aA _),λh=>?_⟩
 .subst e;simp at h;omega
 .have u:l.length=r.length:=by simp at h;omega
  refine dW (n:=l.length) (o▸f.gX) (λk a=>J m a/\l.take k=r.take k) ⟨J.aA _,aN⟩ ?_;rintro k w I μ q ⟨b,d⟩ p
  refine dit (λj=>?_) λj=>?_
  .let⟨y,g⟩:=cL l k;let⟨z,c⟩:=cL r k;refine⟨V,V,y,by simpa using b.af (f.aF g),V,V,z,by simpa using b.af (i.aF c),λa=>bX (λe=>?_) b,λa=>p V _ ⟨b,?_⟩⟩
   .subst e;rw[g]at c;simp at c a;exact a c
   .simp at a;rw[aV g,aV c,d,a]
  .rw[bZ V,bZ V]at d;exact iY d b
end
section
variable{m:E}{b P:Nat}{a:O}{S:List Nat}
def Js.ext{a:E}{dk:O}(h:Js m dk)(x:J m a):Js a dk:=⟨h.1,λk d=>let⟨v,b,c,g⟩:=h.2 k d;⟨v,b,c,x.af g⟩⟩
end
end
section
variable{n b:Nat}{f:Nat->Int}{d:cV}{s:St}
def tj(n:Nat)(f:Nat->Int):List Int:=(List.range n).map f
def oG(n:Nat)(f:Nat->Int):(tj n f).length=n:=by simp[tj]
def vk(h:b<n):(tj n f)[b]? =some (f b):=by
 unfold tj;rw[cN,NA h];rfl
def fE{g:Nat->Int}(h:∀b,b<n->f b=g b):tj n f=tj n g:=by
 unfold tj;exact List.map_congr_left λb a=>h b (List.mem_range.1 a)
def Sr(v:Int):(tj n f).set b v=tj n (λa=>if a=b then v else f a):=by
 apply ic;intro i;by_cases a:i<n
 .rw[vk a];by_cases e:b=i
  .subst e;rw[dB (by rw[oG];exact a),ao rfl]
  .rw[cx e,vk a,ae (λh=>e h.symm)]
 .rw[cT (by rw[ez,oG];omega),cT (by rw[oG];omega)]
def Tf(n:Nat):tj n (λ_=>0)=dt n:=by
 unfold tj dt;rw[List.map_const'];simp
structure Oy(h:List bK):Prop where
 jH:oD h
 cells:∀c∈h,oL h c
 eA:∀(b:Nat)(c:bK),h[b]? =some c->0<c.aQ->eA h b<=c.aQ
 KN:Tp h
structure HQ(h:List bK)(f:aY):Prop where
 dD:∀(k:Nat)(w o:Int),f.ak[k]? =some w->f.aS[k]? =some o->(gS w\/1000<=w)/\(0<=o/\o<=999999)/\(0<o->fQ h w)
structure KF(d:cV)(h:List bK)(prev:Option aY)(f:aY):Prop where
 fw:0<=f.fw/\f.fw<d.cE.length
 pc:0<=f.pc/\f.pc<(dR d f.fw).dk.length
 lr:(f.ak.length:Int)=(dR d f.fw).ak
 lo:(f.aS.length:Int)=(dR d f.fw).ak
 lh:(f.ba.length:Int)=(dR d f.fw).ak
 ak:HQ h f
 first:prev=none->f.dst=0
 next:∀p,prev=some p->0<=f.dst/\f.dst<p.aS.length/\aF p.aS f.dst=0
def nN(a:List aY):Nat->Option aY
 |0=>none
 |k+1=>a[k]?
structure Oz(h:List bK)(fs:List aY):Prop where
 cQ:∀f∈fs,∀w∈f.ba,w=0\/(1000<=w/\ix w<h.length)
 lH:∀(i:Nat)(c:bK),h[i]? =some c->c.aQ<0->holds fs i=1
 nC:∀(i:Nat)(c:bK),h[i]? =some c->0<=c.aQ->holds fs i=0
structure NG(d:cV)(s:St):Prop where
 fm:nF d
 cw:0<=s.cw/\s.cw<=3
 done:s.cw=0<->s.an=[]
 value:gS s.value
 ug:s.value≠0->s.cw=0
 dX:0<=s.dX/\s.dX<=40
 bA:0<=s.bA/\s.bA<=s.dX
 depth:(s.an.length:Int)<=s.bA+1
 aU:∀n∈s.aU,gS n
 heap:Oy s.heap
 an:∀(k:Nat)(f:aY),s.an[k]? =some f->KF d s.heap (nN s.an k) f
 ba:Oz s.heap s.an
 Q6:∀(b:Nat)(c:bK),s.heap[b]? =some c->0<c.aQ->c.aQ=eA s.heap b+fD s.an b
def Qe:∀{c:List aY}{b:Nat},0<fD c b->∃f∈c,0<di f.ak f.aS b
 |[],b,h=>by simp[fD]at h
 |f::c,b,h=>by
  simp only[fD]at h;by_cases d:0<di f.ak f.aS b
  .exact⟨f,aN,d⟩
  .let⟨g,e,i⟩:=Qe (c:=c) (b:=b) V;exact⟨g,by simp[e],i⟩
def N3:∀{ak aS:List Int}{b:Nat},0<di ak aS b->∃(k:Nat)(o:Int),ak[k]? =some (1000+(b:Int))/\aS[k]? =some o/\0<o
 |[],aS,b,h=>by simp[di]at h
 |_::_,[],b,h=>by simp[di]at h
 |r::i,o::g,b,h=>by
  simp only[di]at h;by_cases a:r=1000+(b:Int)/\0<o
  .exact⟨0,o,by simp[a.1],rfl,a.2⟩
  .have:0<di i g b:=by
    split at h
    .rename_i e;have:¬0<o:=λc=>a ⟨e,c⟩;omega
    .omega
   let⟨k,f,c,d,e⟩:=N3 this;exact⟨k+1,f,by simpa using c,by simpa using d,e⟩
def Vv{a:List aY}{f:aY}(c:f∈a)(d:∀g∈a,0<=di g.ak g.aS b):di f.ak f.aS b<=fD a b:=by
 induction a with
 |nil=>simp at c
 |cons g a i=>
  have m:0<=fD a b:=by
   clear i c;induction a with
   |nil=>simp[fD]
   |cons q a j=>
    have k:=d q aN;have l:=j (λx e=>d x (by simp at e⊢;rcases e with h|h;exact Or.inl h;exact Or.inr (Or.inr h)));simp only[fD];omega
  simp only[fD];rcases List.mem_cons.1 c with rfl|c
  .omega
  .have:=i c λx e=>d x (by simp[e]);have:=d g aN;omega
def Uv{a:List aY}(c:∀g∈a,0<=di g.ak g.aS b):0<=fD a b:=by
 induction a with
 |nil=>simp[fD]
 |cons q a e=>
  have f:=c q aN;have g:=e λx d=>c x (by simp[d]);simp only[fD];omega
def P7{a:List aY}{f:aY}(c:f∈a):eD f.ba b<=holds a b:=by
 induction a with
 |nil=>simp at c
 |cons g a d=>
  simp only[holds];rcases List.mem_cons.1 c with rfl|c
  .have:=wa a b;omega
  .have:=d c;have:=iO g.ba b;omega
def Lr{a:List aY}(h:∀f∈a,∀w∈f.ba,w≠1000+(b:Int)):holds a b=0:=by
 induction a with
 |nil=>rfl
 |cons g a e=>
  simp only[holds];rw[e λf c=>h f (by simp[c]),od λd=>h g aN _ d rfl];rfl
def wy{a:List aY}{f:aY}(h:f∈a):∃k:Nat,a[k]? =some f:=List.mem_iff_getElem?.1 h
def MA(h:NG d s):cW d s:=by
 have r:∀f∈s.an,∃p,KF d s.heap p f:=λf c=>let⟨k,g⟩:=wy c;⟨_,h.an k f g⟩;have z:∀b,∀j∈s.an,0<=di j.ak j.aS b:=λb j t=>by
  let⟨p,a⟩:=r j t;refine tK (λo l=>?_) b;let⟨k,g⟩:=List.mem_iff_getElem?.1 l;have u:=aw g;have e:=a.lr;have q:=a.lo;let⟨w,i⟩:=cL j.ak k;exact(a.ak.dD k w o i g).2.1.1
 refine⟨h.fm,h.cw,h.done,h.value,h.ug,h.dX,h.bA,h.depth,h.aU,⟨h.heap.cells,h.heap.KN,h.Q6,λb=>Uv (z b),λb y=>?_⟩,h.heap.jH,λf c=>?_,λf c=>(h.an 0 f c).first rfl,λk f j c t=>(h.an (k+1) j t).next f c,λb⟨m,n,v⟩=>h.ba.lH b m n v,λb g=>?_⟩
 .let⟨f,c,a⟩:=Qe y;let⟨k,o,e,q,x⟩:=N3 a;let⟨p,a⟩:=r f c;have:=((a.ak.dD k _ o e q).2.2 x).2;rwa[lP]at this
 .let⟨p,a⟩:=r f c;refine⟨a.fw,a.pc,a.lr,a.lo,a.lh,λw i=>?_,λk o w l i=>?_,λw i=>?_⟩
  .let⟨k,g⟩:=List.mem_iff_getElem?.1 i;have u:=aw g;have e:=a.lr;have q:=a.lo;let⟨o,l⟩:=cL f.aS k;exact(a.ak.dD k w o g l).1
  .have:=a.ak.dD k w o i l;exact⟨this.2.1.1,λx=>(this.2.2 x).1⟩
  .rcases h.ba.cQ f c w i with e|e
   .exact Or.inl e
   .exact Or.inr e.1
 .rcases aX b s.heap.length with u|A
  .let⟨m,n⟩:=dG u;refine h.ba.nC b m n (Int.not_lt.1 λv=>g ⟨m,n,v⟩)
  .refine Lr λf c w i x=>?_;rcases h.ba.cQ f c w i with e|e
   .omega
   .have:=e.2;rw[x,lP]at this;omega
def OJ(h:cW d s):NG d s:=by
 have E:∀b,∀p∈s.an,0<=di p.ak p.aS b:=λb p D=>tK (h.an p D).Qd b;have y:∀f∈s.an,∀(k:Nat)(w o:Int),f.ak[k]? =some w->f.aS[k]? =some o->0<o->fQ s.heap w/\o<=999999:=λf g k w o i n q=>by
  have m:=((h.an f g).aS k o w n i).2 q;have A:=iv m;have B:=LO (h.an f g).Qd i n (d:=ix w) A.symm;have C:=Vv g (E (ix w));have x:=h.heap.lv (ix w) V;let⟨j,e,c⟩:=x;have I:=h.heap.ex _ j e c;have J:=ru s.heap (ix w);have K:=(h.heap.cell j (aq e)).hi;exact⟨⟨m,j,e,c⟩,V⟩
 refine⟨h.fm,h.cw,h.done,h.value,h.ug,h.dX,h.bA,h.depth,h.aU,⟨h.jH,h.heap.cell,λb j e c=>?_,h.heap.KN⟩,λk f g=>?_,⟨λf g w i=>?_,λu j e z=>h.lH u ⟨j,e,z⟩,λu j e z=>h.nC u λ⟨H,r,L⟩=>?_⟩,h.heap.ex⟩
 .have:=h.heap.ex b j e c;have:=h.heap.nn b;omega
 .have t:=aq g;have F:=h.an f t;refine⟨F.fw,F.pc,F.lr,F.lo,F.lh,⟨λv w o i n=>⟨F.So w (aq i),⟨(F.aS v o w n i).1,?_⟩,λc=>(y f t v w o i n c).1⟩⟩,λc=>?_,λG c=>?_⟩
  .rcases Jq 0 o with q|q
   .exact(y f t v w o i n q).2
   .omega
  .cases k with
   |zero=>exact h.first f g
   |succ k=>
    simp only[nN]at c;have:=aw g;rw[List.getElem?_eq_none_iff]at c;omega
  .cases k with
   |zero=>simp[nN]at c
   |succ k=>exact h.chain k G f c g
 .rcases(h.an f g).ba w i with m|m
  .exact Or.inl m
  .refine Or.inr ⟨m,Nat.lt_of_not_le λt=>?_⟩;have B:=h.nC (ix w) λ⟨j,e,_⟩=>by have:=aw e;omega
   have C:=P7 g (b:=ix w);have x:=uU (l:=f.ba) (f:=ix w) (by rw[iv m];exact i);omega
 .rw[e]at r;simp at r;subst r;omega
end
section
variable{M d:E}{b e a:Nat}{f:Nat->Int}{h:List bK}{w:Int}{c:bK}
def Eb(w:Int):Prop:=-9223372036854775808<=w/\w<=9223372036854775807
def Sz(h:List bK):Prop:=∀c∈h,∀w∈c.aH,Eb w
def ub(B:cK M b aB ((tj e f).map Ce.i))(h:a<e):af M b a=some (vi (f a)):=by
 rw[B.cq a,cN,vk h];rfl
def Jl(B:cK M b aB ((tj e f).map Ce.i))(a:Nat)(v:Int):cK (ai M b a [.i v]) b aB ((tj e (λx=>if x=a then v else f x)).map Ce.i):=by
 have:=B.ai (m:=M) (o:=a) (r:=[.i v]);rw[AB,Sr]at this;exact this
def Ok(B:cK M b aB ((tj e f).map Ce.i))(h:a<e):fO M b a 1:=B.fO (by simp[oG];omega)
def Pm(B:cK M b aB ((tj e f).map Ce.i))(h:e<=9223372036854775807):ap M (.mk b 0 e e) (tj e f):=
 ⟨by simp[oG],ad _,h,λk x a=>⟨[.i x],rfl,λi c d=>by
  have g:k<e:=by have:=aw a;rwa[oG]at this
  rw[vk g]at a;simp at a;cases i with
  |zero=>simp at d;subst d;have:=ub B g;rw[a]at this;simpa[Ce.v]using this
  |succ i=>simp at d⟩⟩
def MC(M:E)(e:Nat):cK (M.push (.cells (bz (mT [.i (0:Int)] e)) aB)) M.size aB ((tj e (λ_=>0)).map Ce.i):=by
 rw[uj,Tf];exact cK.push M _ _
def TF(f:Nat)(b:List Value)(d:E)(l:List Int):Prop:=aO cp f b d λv a=>∃s,v=O.v s/\ap a s l/\J d a
def Mr{f:O}(i:cU d f h)(k:Eb w):dy cp 147 [O.v f,vi w] d (qP h w):=by
 apply Hd;refine(bd _ _ _ _).then λb m e c=>⟨b,rfl,λa=>iY (Or.inl (e.1 a)) c,λa=>?_⟩;refine(jq (cU.ext c i) k).then λb2 n g l=>⟨b2,rfl,eW ?_ (c.trans l)⟩;rw[g];exact⟨λh=>Or.inr h,λh=>h.resolve_left λj=>fb e a j⟩
def Hr{C f:O}(F:cU d C h)(x:ap d f c.aH)(G:∀w∈c.aH,Eb w):dy cp 86 [O.v C,.agg #[vi c.aQ,vi c.kE,O.v f]] d (oL h c):=by
 apply BK;simp -zeta only[aD,aC];intro o;have e:J d o:=(J.aA d).aL _;have P:o.size=d.size+1:=by simp[o]
 clear_value o;have B:=x.len;refine⟨λt=>bX (λa=>by have:=a.fl;simp at t;omega) e,λt=>?_⟩;have y:c.aH.length<=3:=by simp at t;omega
 have q:∀b∈[d.size],b<o.size:=bG;refine(bd _ _ _ _).aJ (J.aA _) q λb N A i _=>⟨b,rfl,λu=>bX (λa=>nb A u ⟨a.lo,a.hi⟩) (e.trans i),λu=>?_⟩;have m:=yb A u;refine⟨λv=>?_,λv=>?_⟩
 .have k:c.aQ<1:=by simpa using v
  refine⟨λl=>?_,λl=>bX (λa=>by simp at l;exact l (a.xp k).1) (e.trans i)⟩;have s:c.kE=0:=by simpa using l
  refine(mF (x.ext (e.trans i))).aJ i q λb3 H z j _=>⟨b3,rfl,λg=>?_,λg=>bX (λa=>fb z g (a.xp k).2.1) ((e.trans i).trans j)⟩;have D:=z.1 g;refine⟨λr=>iY ⟨y,m.1,m.2,λ_=>⟨s,D,λp=>by simp at r;omega⟩,λp=>V⟩ ((e.trans i).trans j),λr=>eW ?_ ((e.trans i).trans j)⟩;have E:c.aQ=0:=by simp at r;omega
  constructor
  .intro p;have:c.aH=[]:=by simp at p;exact List.length_eq_zero_iff.1 V
   exact⟨y,m.1,m.2,λ_=>⟨s,D,λ_=>this⟩,λp=>V⟩
  .intro a;have:=(a.xp k).2.2 E;rw[this]at B;simp[B]
 .have k:0<c.aQ:=by simp at v;omega
  refine dW (n:=c.aH.length) V (λz p=>J o p/\∀w∈c.aH.take z,qP h w) ⟨i,aN⟩ ?_;rintro z H L μ M ⟨j,D⟩ I
  refine dit (λl=>?_) λl=>?_
  .let⟨w,r⟩:=cL c.aH z;refine⟨V,V,w,by simpa using(x.ext (e.trans j)).aF r,(Mr (cU.ext (e.trans j) F) (G w (aq r))).aJ j q λb4 E p K s=>⟨b4,rfl,λg=>bX (λa=>nb p g ((a.ph k).1 w (aq r))) (e.trans s),λg=>I V E ⟨s,bE r D (yb p g)⟩⟩⟩
  .refine(bd _ _ _ _).aJ j q λb4 E p K s=>⟨b4,rfl,eW ?_ (e.trans s)⟩;rw[p];exact⟨λr=>⟨y,m.1,m.2,λg=>V,λ_=>⟨dh V D,r⟩⟩,λa=>(a.ph k).2⟩
def Of{i:Nat}(b:h[i]? =some c)(a:Nat):eA (h.take (i+1)) a=eA (h.take i) a+eD c.aH a:=by
 rw[aV b,uW];simp[eA]
def rK{l:List Int}{k:Nat}(b:l[k]? =some w)(a:Nat):eD (l.take (k+1)) a=eD (l.take k) a+(if w=1000+(a:Int)then 1 else 0):=by
 rw[aV b,mq];simp[eD]
def Cn:∀(h:List bK)(a:Nat),(∀c∈h,c.aH.length<=3)->eA h a<=3*h.length
 |[],a,_=>by simp[eA]
 |c::h,a,b=>by
  have e:=Cn h a λd hd=>b d (by simp[hd]);have f:=kL c.aH a;have g:=b c aN;simp only[eA,be];omega
def Ju(b:∀c∈h,oL h c)(d:c∈h)(e:w∈c.aH):fQ h w\/w<1000:=by
 by_cases f:0<c.aQ
 .rcases((b c d).ph f).1 w e with a|a
  .have:=a.2;exact Or.inr V
  .exact Or.inl a
 .have:=((b c d).xp V).2.1 w e;exact Or.inr V
def Bz{B:O}(z:cU d B h)(u:∀c∈h,oL h c)(R:Sz h)(af:h.length<=1000000000):TF 87 [O.v B] d (tj h.length (eA h)):=by
 apply Hg;have hl:=z.len;have en:Int.toNat (B.len:Int)=h.length:=V;rw[en];refine⟨V,V,V,V,?_⟩;intro C;have Y:J d C:=(J.aA d).aL _;have K:cK C d.size aB ((tj h.length (λ_=>0)).map Ce.i):=MC d _;clear_value C;have Q:∀i,∀c∈h.take i,c.aH.length<=3:=λi c S=>(u c (dF S)).fl;refine dW (n:=h.length) V (λi e=>J d e/\cK e d.size aB ((tj h.length (λa=>eA (h.take i) a)).map Ce.i)) ⟨Y,by simpa[eA]using K⟩ ?_;rintro i m2 Z μ hi ⟨I,p⟩ X
 refine dit (λN=>?_) λN=>?_
 .let⟨c,v⟩:=cL h i;have x:=aq v;have ab:=(u c x).fl;refine dW (n:=c.aH.length) V (λk e=>J d e/\cK e d.size aB ((tj h.length (λa=>eA (h.take i) a+eD (c.aH.take k) a)).map Ce.i)) ⟨I,by simpa[eD]using p⟩ ?_;rintro k U aa ν hk ⟨m,o⟩ H;obtain⟨f,y,_,_,s⟩:=(cU.ext m z).aF v;have ac:=y.len;refine⟨V,V,f,by simpa using s,dit (λP=>?_) λP=>?_⟩
  .let⟨w,l⟩:=cL c.aH k;have G:=aq l;have F:=R c x w G;refine⟨V,V,f,by simpa using s,V,V,w,by simpa using y.aF l,(jq (cU.ext m z) F).then λb W j e=>⟨b,rfl,λt=>?_,λt=>?_⟩⟩
   .have A:=j.1 t;have E:=aw (bP A).1;have L:cG (w -1000)=(ix w:Nat):=by have:=A.1;have:=F.2;unfold ix;rw[aR V V];omega
    have M:Int.toNat ((ix w:Nat):Int)=ix w:=V;have q:=o.ext e;have q1:=Cn (h.take i) (ix w) (Q i);have q2:=kL (c.aH.take k) (ix w);have q3:=ru (h.take i) (ix w);have q4:=iO (c.aH.take k) (ix w);have q5:(h.take i).length<=h.length:=bG;have q6:(c.aH.take k).length<=3:=bG;refine⟨V,V,f,by simpa using e.af s,V,V,w,by simpa using(y.ext e).aF l,?_⟩;rw[L,M];simp only[O.gL,O.jJ,O.nt,bW,eT];refine⟨V,V,_,ub q E,V,V,Ok q E,?_⟩;rw[show cG (eA (h.take i) (ix w)+eD (c.aH.take k) (ix w)+1)=eA (h.take i) (ix w)+eD (c.aH.take k) (ix w)+1 from aR V V];refine H V _ ⟨(m.trans e).ai (ad _) _ _,?_⟩;have D:=Jl q (ix w) (eA (h.take i) (ix w)+eD (c.aH.take k) (ix w)+1);rw[fE (g:=λa=>eA (h.take i) a+eD (c.aH.take (k+1)) a)]at D
    .exact D
    .intro b j;rw[rK l];by_cases r:b=ix w
     .subst r;rw[ao rfl,ao (iv A.1).symm];omega
     .rw[ae r,ae (λT=>r (by rw[T,lP]))];omega
   .refine H V W ⟨m.trans e,?_⟩;have q:w<1000:=(Ju u x G).resolve_left (fb j t);rw[fE (g:=λa=>eA (h.take i) a+eD (c.aH.take k) a)]
    .exact o.ext e
    .intro b j;rw[rK l,ae V];omega
  .refine X V U ⟨m,?_⟩
   have e:c.aH.take k=c.aH:=bZ V;rw[e]at o;rw[fE (g:=λa=>eA (h.take i) a+eD c.aH a)]
   .exact o
   .intro b j;exact Of v b
 .rw[bZ V]at p;exact⟨_,rfl,Pm p V,I⟩
end
section
variable{a b c:Nat}{h:List bK}{M g:E}{e:Nat->Bool}
def mQ(mk:Nat->Bool):Nat->Nat
 |0=>0
 |c+1=>mQ mk c+(if mk c=true then 1 else 0)
def FU(mk:Nat->Bool):∀c,mQ mk c<=c
 |0=>ad _
 |c+1=>by have:=FU mk c;simp only[mQ];split<;>omega
def KX{mk:Nat->Bool}:∀{c:Nat},(mQ mk c=c<->∀i,i<c->mk i=true)
 |0=>by simp[mQ]
 |c+1=>by
  have g:=FU mk c;have a:=KX (mk:=mk) (c:=c);simp only[mQ];constructor
  .intro h i f;have b:mk c=true:=by by_cases e:mk c=true;exact e;rw[ae e]at h;omega
   rw[ao b]at h;rcases aX i c with d|d
   .exact a.1 V i d
   .have:i=c:=V;rw[this];exact b
  .intro h;rw[ao (h c V),a.2 λi f=>h i V]
def KY{mk a:Nat->Bool}:∀{c:Nat},(∀i,i<c->mk i=a i)->mQ mk c=mQ a c
 |0,_=>rfl
 |c+1,h=>by simp only[mQ];rw[KY λi b=>h i V,h c V]
def mX(mk:Nat->Bool)(a:Nat):Nat->Bool:=λx=>if x=a then true else mk x
def Cq(mk:Nat->Bool)(a:Nat):mX mk a a=true:=ao rfl
def qb{mk:Nat->Bool}(h:b≠a):mX mk a b=mk b:=ae h
def Cr{mk:Nat->Bool}(h:mk b=true):mX mk a b=true:=by unfold mX;split;rfl;exact h
def zV{mk:Nat->Bool}{a:Nat}(h:mk a=false):∀{c:Nat},a<c->mQ (mX mk a) c=mQ mk c+1
 |0,d=>absurd d (eZ _)
 |c+1,d=>by
  simp only[mQ];rcases aX a c with b|b
  .rw[zV h b,qb V];omega
  .have e:a=c:=V;subst e;rw[Cq,ao rfl,h,ae aN,KY (a:=mk) λi f=>qb V]
def NF(h:List bK)(mk:Nat->Bool):Prop:=
 ∃t:Nat->Nat,(∀j,mk j=true->t j<=mQ mk h.length)/\∀(i:Nat)(c:bK),h[i]? =some c->mk i=true->∀w∈c.aH,1000<=w->mk (ix w)=true/\t (ix w)<t i
def Px(mk:Nat->Bool)(a:List Int):Prop:=∀w∈a,1000<=w->mk (ix w)=true
def NF.set{mk:Nat->Bool}(u:NF h mk){j:bK}(l:h[a]? =some j)(e:mk a=false)(s:Px mk j.aH):NF h (mX mk a):=by
 let⟨z,k,r⟩:=u;have t:=aw l;have q:=zV e t;refine⟨λx=>if x=a then mQ mk h.length+1 else z x,λv n=>?_,λi d hd m w p o=>?_⟩
 .simp only[q];split
  .omega
  .rename_i b;rw[qb b]at n;have:=k v n;omega
 .by_cases f:i=a
  .subst f;rw[l]at hd;simp at hd;subst hd;have b:=s w p o;have g:ix w≠i:=λc=>by rw[c,e]at b;cases b
   simp only[ao,ae g];exact⟨Cr b,oh (k _ b)⟩
  .rw[qb f]at m;let⟨b,y⟩:=r i d hd m w p o;have g:ix w≠a:=λc=>by rw[c,e]at b;cases b
   simp only[ae f,ae g];exact⟨Cr b,y⟩
def SS{mk:Nat->Bool}(n:NF h mk)(m:∀a∈h,∀w∈a.aH,1000<=w->ix w<h.length)(k:∀(i:Nat)(a:bK),h[i]? =some a->mk i=true\/¬Px mk a.aH):
 mQ mk h.length=h.length<->Tp h:=by
 rw[KX]
 constructor
 .intro g
  obtain⟨t,_,f⟩:=n
  exact⟨t,λi a b w e d=>(f i a b (g i (aw b)) w e d).2⟩
 .rintro⟨j,o⟩
  have q:∀(c i:Nat),j i<c->i<h.length->mk i=true:=by
   intro c;induction c with
   |zero=>intro i g;omega
   |succ c p=>
    intro i g l;let⟨a,b⟩:=dG l;rcases k i a b with f|f
    .exact f
    .refine absurd (λw e d=>?_) f;exact p (ix w) (oh (o i a b w e d)) (m a (aq b) w e d)
  exactλi g=>q (j i+1) i V g
def zS(c:Nat)(e:Nat->Bool):List Ce:=(List.range c).map λa=>Ce.t (e a)
def FO(c:Nat)(e:Nat->Bool):(zS c e).length=c:=by simp[zS]
def RN(B:cK M b tm (zS c e))(h:a<c):af M b a=some (vb (e a)):=by
 rw[B.cq a];unfold zS;rw[cN,NA h];rfl
def Ve(B:cK M b tm (zS c e))(a:Nat):cK (ai M b a [.t true]) b tm (zS c (mX e a)):=by
 have j:=B.ai (m:=M) (o:=a) (r:=[.t true]);have d:jt (zS c e) a [.t true]=zS c (mX e a):=by
  apply ic;intro i;simp only[jt];by_cases k:i<c
  .have f:∀g:Nat->Bool,(zS c g)[i]? =some (.t (g i)):=λg=>by unfold zS;rw[cN,NA k];rfl
   rw[f];by_cases d:a=i
   .subst d;rw[dB (by rw[FO];exact k),Cq]
   .rw[cx d,f,qb (λh=>d h.symm)]
  .rw[cT (by rw[ez,FO];omega),cT (by rw[FO];omega)]
 rw[d]at j;exact j
def Vd(M:E)(c:Nat):cK (M.push (.cells (bz (mT [.t false] c)) tm)) M.size tm (zS c (λ_=>false)):=by
 have e:mT [.t false] c=zS c (λ_=>false):=by
  unfold mT zS;rw[List.map_const'];simp
 rw[e];exact cK.push M _ _
def GJ{mk:Nat->Bool}{e:O}{d:List Int}(B:cK g b tm (zS c mk))(k:ap g e d)(p:∀w∈d,Eb w)(E:∀w∈d,1000<=w->ix w<c):
 dy cp 148 [O.v (.mk b 0 c c),O.v e] g (Px mk d):=by
 apply AJ
 have H:=k.len
 have K:=k.gX
 refine dW (n:=d.length) V (λr a=>J g a/\Px mk (d.take r)) ⟨J.aA _,λw p=>by simp at p⟩ ?_
 rintro r L I μ G ⟨f,l⟩ x
 refine dit (λA=>?_) λA=>?_
 .let⟨w,h⟩:=cL d r
  have q:=aq h
  have C:=p w q
  refine⟨V,V,w,by simpa using(k.ext f).aF h,(dY _ _).then λF u t i=>⟨F,rfl,λo=>?_,λo=>?_⟩⟩
  .have s:=t.1 o
   have D:=E w q s
   have y:cG (w -1000)=(ix w:Nat):=by have:=C.2;unfold ix;rw[aR V V];omega
   have z:Int.toNat ((ix w:Nat):Int)=ix w:=V
   refine⟨V,V,w,by simpa using(k.ext (f.trans i)).aF h,?_⟩
   rw[y,z]
   simp only[O.gL,O.jJ,O.nt,bW,eT]
   refine⟨V,V,mk (ix w),RN (B.ext (f.trans i)) D,λj=>bX (λa=>by rw[a w q s]at j;cases j) (f.trans i),λj=>x V u ⟨f.trans i,?_⟩⟩
   rw[Px,aV h]
   intro v a m
   rcases List.mem_append.1 a with a|a
   .exact l v a m
   .simp at a;subst a;simpa using j
  .refine x V u ⟨f.trans i,?_⟩
   rw[Px,aV h]
   intro v a m
   rcases List.mem_append.1 a with a|a
   .exact l v a m
   .simp at a;subst a;exact absurd m (fb t o)
 .rw[bZ V]at l
  exact iY l f
def G9{y:O}(L:cU g y h)(hc:∀d∈h,oL h d)(aa:Sz h)(ae:h.length<=1000000000):dy cp 88 [O.v y] g (Tp h):=by
 apply Bg;have hl:=L.len;have en:Int.toNat (y.len:Int)=h.length:=V;rw[en];have N:∀d∈h,∀G∈d.aH,1000<=G->ix G<h.length:=λd hm G hw y=>by
  rcases Ju hc hm hw with o|o
  .exact aw (bP o).1
  .omega
 refine⟨V,V,V,V,?_⟩;intro F;have x1:J g F:=(J.aA g).aL _;have W:cK F g.size tm (zS h.length (λ_=>false)):=Vd g _;clear_value F;have X:mQ (λ_=>false) h.length=0:=by
  generalize h.length=c;induction c with
  |zero=>rfl
  |succ c a=>simp[mQ,a]
 refine Su (γ:=(Nat->Bool)×Bool) (λf R iu u=>iu=f.2/\R=(mQ f.1 h.length:Nat)/\J g u/\cK u g.size tm (zS h.length f.1)/\NF h f.1/\(iu=false->∀(i:Nat)(d:bK),h[i]? =some d->f.1 i=true\/¬Px f.1 d.aH))
  (λf=>if f.2=true then h.length -mQ f.1 h.length+1 else 0) (λ_=>false,true) ⟨rfl,by rw[X];rfl,x1,W,⟨λ_=>0,aN,aN⟩,aN⟩ ?_
 rintro⟨mk,iu⟩ R af m2 ab μ ⟨rfl,rfl,U,H,B,I⟩ T
 simp only at H B I T⊢
 refine⟨λo=>?_,λo=>?_⟩
 .refine⟨λS z i u=>∃(k:Nat)(a:Nat->Bool),i=k/\k<=h.length/\S=(mQ a h.length:Nat)/\J g u/\cK u g.size tm (zS h.length a)/\NF h a/\mQ mk h.length<=mQ a h.length/\(z=true->mQ mk h.length<mQ a h.length)/\
   (z=false->∀(i:Nat)(d:bK),i<k->h[i]? =some d->a i=true\/¬Px a d.aH),λ_ _ i _=>((h.length:Int) -i).toNat,⟨0,mk,rfl,dQ _,rfl,U,H,B,ad _,aN,λ_ i d j=>absurd j (eZ _)⟩,?_⟩
  rintro S z i m3 ⟨k,a,rfl,hk,rfl,v,n,w,Q,E,E3⟩;have ac:=FU a h.length;have j7:∀{P:Prop},k<h.length->(cG ((k:Int)+1)=((k+1:Nat):Int)->((h.length:Int) -((k+1:Nat):Int)).toNat<((h.length:Int) -(k:Int)).toNat->P)->P:=λM hP=>hP (kQ M V) (DM M);refine dit (λh2=>?_) λh2=>?_
  .have p:k<h.length:=V;let⟨d,s⟩:=dG p;have Y:Int.toNat (k:Int)=k:=V;simp only[O.gL,O.jJ,O.nt,bW,eT,Y];refine⟨V,V,a k,RN n p,λC=>?_,λC=>?_⟩
   .have x:a k=false:=by simpa using C
    obtain⟨e,hf,_,_,Z⟩:=(cU.ext v L).aF s;refine⟨V,V,e,Z,(GJ n hf (aa d (aq s)) (N d (aq s))).then λb m4 K A=>⟨b,rfl,λD=>?_,λD=>?_⟩⟩
    .have j:=n.ext A;have m:=zV x p;refine⟨V,V,j.fO (by rw[FO];omega),?_⟩;refine j7 p λr t=>?_;rw[r,show cG ((mQ a h.length:Nat)+1:Int)=((mQ (mX a k) h.length:Nat):Int)by rw[m,aR V V];omega];exact⟨⟨k+1,mX a k,rfl,V,rfl,(v.trans A).ai (ad _) _ _,Ve j k,w.set s x (K.1 D),V,λ_=>V,λl=>by cases l⟩,t⟩
    .refine j7 p λr t=>?_;rw[r];refine⟨⟨k+1,a,rfl,V,rfl,v.trans A,n.ext A,w,Q,E,λl j q hj hd=>?_⟩,t⟩;rcases aX j k with m|m
     .exact E3 l j q m hd
     .have:j=k:=V;subst this;rw[s]at hd;simp at hd;subst hd;exact Or.inr (fb K D)
   .have x:a k=true:=by simpa using C
    refine j7 p λr t=>?_;rw[r];refine⟨⟨k+1,a,rfl,V,rfl,v,n,w,Q,E,λl j q hj hd=>?_⟩,t⟩;rcases aX j k with m|m
    .exact E3 l j q m hd
    .have:j=k:=V;subst this;exact Or.inl x
  .refine T (a,z) _ _ m3 ⟨rfl,rfl,v,n,w,λl j q hd=>E3 l j q (oh (aw hd)) hd⟩ ?_
   simp only[o,MQ];split
   .rename_i m;have:=E m;omega
   .omega
 .refine eW ?_ U;rw[<-SS B N (I o)];simp;omega
def Ht{r:O}(m:cU g r h)(C:Sz h)(K:h.length<=1000000000):dy cp 33 [O.v r] g (Oy h):=by
 apply BN;have Z:=m.len;refine⟨λs=>s=g/\oD h,⟨λq=>?_,λq=>⟨rfl,λc d=>?_⟩⟩,?_⟩
 .simp at q;rw[aR V V];let⟨c,d⟩:=cL h (h.length -1);obtain⟨e,B,g1,_,_⟩:=m.aF d;have i:Int.toNat ((r.len:Int) -1)=h.length -1:=V;rw[i];refine⟨V,V,c.aQ,g1,λj=>bX (λl=>l.jH c d (by simpa using j)) (J.aA _),λj=>⟨rfl,λo hd=>?_⟩⟩;rw[d]at hd;simp at hd;subst hd;simpa using j
 .have:=aw d;simp at q;omega
 rintro S ⟨rfl,R⟩;refine dW (n:=h.length) V (λi s=>J S s/\∀c∈h.take i,oL h c) ⟨J.aA _,aN⟩ ?_;rintro i m2 W μ l ⟨p,G⟩ T
 refine dit (λq=>?_) λq=>?_
 .let⟨c,d⟩:=cL h i;let⟨e,B,g1,g2,E⟩:=(cU.ext p m).aF d;refine⟨V,V,c.aQ,by simpa using g1,c.kE,by simpa using g2,e,by simpa using E,(Hr (cU.ext p m) B (C c (aq d))).then λb D u w=>⟨b,rfl,λj=>bX (λl=>nb u j (l.cells c (aq d))) (p.trans w),λj=>T V D ⟨p.trans w,bE d G (yb u j)⟩⟩⟩
 have A:=dh V G;refine(Bz (cU.ext p m) A C K).mono ?_;rintro _ D ⟨U,rfl,I,w⟩;have Q:=I.len;rw[oG]at Q;refine⟨U,rfl,dW (n:=h.length) V (λi s=>J D s/\∀(a:Nat)(c:bK),a<i->h[a]? =some c->0<c.aQ->eA h a<=c.aQ) ⟨J.aA _,λa c t=>absurd t (eZ _)⟩ ?_⟩;rintro i L X ν Y ⟨x,H⟩ M;have v:=(p.trans w).trans x;refine dit (λj=>?_) λj=>?_
 .let⟨c,d⟩:=cL h i;let⟨e,B,g1,g2,E⟩:=(cU.ext v m).aF d;have iu:(0<c.aQ->eA h i<=c.aQ)->∀(a:Nat)(o:bK),a<i+1->h[a]? =some o->0<o.aQ->eA h a<=o.aQ:=λP a o t hd=>by
   rcases aX a i with F|F
   .exact H a o F hd
   .have:a=i:=V;subst this;rw[d]at hd;simp at hd;subst hd;exact P
  refine⟨V,V,c.aQ,by simpa using g1,λy=>?_,λy=>M V L ⟨x,iu λz=>by simp at y;omega⟩⟩;have N:=(I.ext x).aF (k:=i) (vk (f:=eA h) (show i<h.length by omega));refine⟨V,V,c.aQ,by simpa using g1,V,V,eA h i,by simpa using N,λz=>bX (λl=>?_) v,λz=>M V L ⟨x,iu λ_=>by simp at z;omega⟩⟩;have:=l.eA i c d (by simpa using y);simp at z;omega
 .refine(G9 (cU.ext v m) A C K).then λb y u o=>⟨b,rfl,eW ?_ (v.trans o)⟩;rw[u];exact⟨λt=>⟨R,A,λa c d r=>H a c (oh (aw d)) d r,t⟩,λl=>l.KN⟩
end
section
variable{m:E}{f:aY}
structure gK(m:E)(aU hp fr:O)(s:St):Prop where
 aU:ap m aU s.aU
 heap:cU m hp s.heap
 an:iK m fr s.an
def gK.ext{m d:E}{aU c b:O}{s:St}(h:gK m aU c b s)(a:J m d):gK d aU c b s:=⟨h.aU.ext a,cU.ext a h.heap,iK.ext a h.an⟩
def Sy(f:aY):Prop:=(∀w∈f.ak,Eb w)/\(∀w∈f.aS,Eb w)/\(∀w∈f.ba,Eb w)
structure zI(s:St):Prop where
 bA:Eb s.bA
 heap:Sz s.heap
 an:∀f∈s.an,Sy f
 lh:s.heap.length<=10000000
 lf:s.an.length<=10000000
 lr:∀f∈s.an,f.ak.length<=10000000/\f.aS.length<=10000000/\f.ba.length<=10000000
def Nz(s:St)(aU b a:O):Value:=.agg #[vi s.cw,vi s.value,vi s.bA,vi s.dX,O.v aU,O.v b,O.v a]
def EE{f:O}{l:List Int}(c:ap m f l):dy cp 32 [O.v f] m (∀a∈l,gS a):=by
 apply yW;have s:=c.len;have t:=c.gX;refine dW (n:=l.length) V (λk b=>J m b/\∀a∈l.take k,gS a) ⟨J.aA _,aN⟩ ?_;rintro k u I μ r ⟨a,g⟩ q
 refine dit (λj=>?_) λj=>?_
 .let⟨w,d⟩:=cL l k;exact⟨V,V,w,by simpa using(c.ext a).aF d,(bd _ _ _ _).then λi p e h=>⟨i,rfl,λb=>bX (λo=>nb e b (o w (aq d))) (a.trans h),λb=>q V p ⟨a.trans h,bE d g (yb e b)⟩⟩⟩
 .exact iY (dh V g) a
def RJ(h:List bK)(w o:Int):Prop:=(gS w\/1000<=w)/\(0<=o/\o<=999999)/\(0<o->fQ h w)
def Hv{x z o aa:O}{h:List bK}(hh:cU m x h)(C:ap m z f.ak)(R:ap m o f.aS)(ad:f.aS.length=f.ak.length)(ab:Sy f)(Y A Z:Int):
 dy cp 89 [O.v x,.agg #[vi Y,vi A,vi Z,O.v z,O.v o,O.v aa]] m (HQ h f):=by
 apply BR
 simp -zeta only[aD,aC]
 intro b
 have p:J m b:=(J.aA m).aL _
 have s1:b.size=m.size+1:=by simp[b]
 clear_value b
 have v:∀A∈[m.size],A<b.size:=bG
 have ah:=C.len
 have ag:=R.len
 have ae:=C.gX
 refine dW (n:=f.ak.length) V (λk m'=>J b m'/\∀(j:Nat)(w o:Int),j<k->f.ak[j]? =some w->f.aS[j]? =some o->RJ h w o) ⟨J.aA _,λj w o P=>absurd P (eZ _)⟩ ?_
 rintro k U K μ Q ⟨I,S⟩ W
 refine dit (λh1=>?_) λh1=>?_
 .let⟨w,i⟩:=cL f.ak k
  let⟨r,B⟩:=cL f.aS k
  have gw:∀{M:E},J b M->af M z.D (z.off+Int.toNat (k:Int)*1)=some (vi w):=λD=>by simpa using(C.ext (p.trans D)).aF i
  have L:∀{M:E},J b M->af M o.D (o.off+Int.toNat (k:Int)*1)=some (vi r):=λD=>by simpa using(R.ext (p.trans D)).aF B
  have iu:RJ h w r->∀(j:Nat)(w o:Int),j<k+1->f.ak[j]? =some w->f.aS[j]? =some o->RJ h w o:=λa j w' G P y q=>by
   rcases aX j k with N|N
   .exact S j w' G N y q
   .have:j=k:=V;subst this;rw[i]at y;rw[B]at q;simp at y q;subst y;subst q;exact a
  have F:¬RJ h w r->¬HQ h f:=λa Q=>a (Q.dD k w r i B)
  have jV:∀{M:E},J b M->(gS w\/1000<=w)->(0:Int)<=(k:Int)/\(k:Int)<(o.len:Int)/\∃X:Int,af M o.D (o.off+Int.toNat (k:Int)*1)=some (vi X)/\
   aO cp 31 [vi X,vi (0:Int),vi (999999:Int)] M λac l=>eF [m.size] M l/\∃H:Bool,ac=vb H/\
   ((!H)=true->∃c:Bool,vb false=.bool c/\(c=true<->HQ h f)/\J m l)/\
   ((!H)=false->(0:Int)<=(k:Int)/\(k:Int)<(o.len:Int)/\∃g:Int,af l o.D (o.off+Int.toNat (k:Int)*1)=some (vi g)/\
   ((decide (g>(0:Int)))=true->aO cp 101 [O.v x,vi w] l λs d=>eF [m.size] l d/\∃e:Bool,s=vb e/\
    ((!e)=true->∃c:Bool,vb false=.bool c/\(c=true<->HQ h f)/\J m d)/\((!e)=false->K (cG ((k:Int)+(1:Int))) d/\μ (cG ((k:Int)+(1:Int))) d<μ k U))/\
   ((decide (g>(0:Int)))=false->K (cG ((k:Int)+(1:Int))) l/\μ (cG ((k:Int)+(1:Int))) l<μ k U)):=λ{M} xM hi=>by
   refine⟨V,V,r,L xM,(bd _ _ _ _).aJ xM v λb3 m3 s x3 c=>⟨b3,rfl,λd=>bX (F λa=>nb s d a.2.1) (p.trans c),λd=>?_⟩⟩
   have T:=yb s d
   refine⟨V,V,r,L c,λe=>?_,λe=>W V _ ⟨c,iu ⟨hi,T,λx=>by simp at e;omega⟩⟩⟩
   refine(jq (cU.ext (p.trans c) hh) (ab.1 w (aq i))).aJ c v λb4 m4 t x4 u=>⟨b4,rfl,λg=>bX (F λa=>nb t g (a.2.2 (by simpa using e))) (p.trans u),λg=>W V _ ⟨u,iu ⟨hi,T,λ_=>yb t g⟩⟩⟩
  refine⟨V,V,w,gw I,(bd _ _ _ _).aJ I v λb3 m3 s x3 c=>⟨b3,rfl,λd=>?_,λd=>jV c (Or.inl (yb s d))⟩⟩
  refine(dY _ _).aJ c v λb4 m4 t x4 u=>⟨b4,rfl,λe=>bX (F λa=>?_) (p.trans u),λe=>jV u (Or.inr (yb t e))⟩
  rcases a.1 with g|g
  .exact nb s d g
  .exact nb t e g
 .exact iY ⟨λj w G i q=>S j w G (oh (aw i)) i q⟩ (p.trans I)
def Fm{Q p aU c R:O}{l:cV}{s:St}(I:fC m Q p l)(i:gK m aU c R s)(ah:zI s){k:Nat}(H:s.an[k]? =some f):
 dy cp 34 [.agg #[O.v Q,O.v p],Nz s aU c R,vi k] m (KF l s.heap (nN s.an k) f):=by
 apply zq
 simp -zeta only[aD,aC]
 intro t b
 have x2:J m b:=((J.aA m).aL _).aL _
 have s1:t.size=m.size+1:=by simp[t]
 have s2:b.size=m.size+2:=by simp[b,s1]
 clear_value b
 have au:=i.an.len
 have av:=i.an.gX
 have az:=aw H
 have aJ:=I.cE.len
 have aL:=I.cE.gX
 let⟨an,am,af,hr,Z,he,g0,g1,g2,g3,g4,g5⟩:=(i.ext x2).an.aF H
 have ek:Int.toNat (k:Int)=k:=V
 rw[ek]
 refine⟨V,V,_,g0,_,g1,_,g2,an,g3,am,g4,af,g5,?_⟩
 intro m3 n
 have x4:J b n:=((J.aA b).aL _).ai (ad _) _ _
 have s4:n.size=b.size+1:=by simp[n,m3,ax]
 clear_value n
 have hl:∀z∈[b.size,t.size,m.size],z<n.size:=bG
 have M:=x2.trans x4
 rw[aR V V]
 refine(bd _ _ _ _).aJ (J.aA _) hl λb5 u T x _=>⟨b5,rfl,λA=>bX (λa=>nb T A ⟨a.fw.1,oh a.fw.2⟩) (M.trans x),λA=>?_⟩
 have aj:=yb T A
 have N:=M.trans x
 let⟨v,hq⟩:=cL l.cE f.fw.toNat
 have d:dR l f.fw=v:=by unfold dR;rw[hq];rfl
 let⟨pa,pl,pc,aG,aK,aa,k0,k1,k2,k3,k4⟩:=(I.ext N).cE.aF hq
 have aH:=aa.len
 have aI:=aa.gX
 refine⟨V,V,pa,k0,pl,k1,_,k2,_,k3,pc,k4,?_⟩
 intro m6 o
 have x7:J u o:=((J.aA u).aL _).ai (ad _) _ _
 have s7:o.size=u.size+1:=by simp[o,m6,ax]
 have z5:=x.size
 clear_value o
 have K:∀z∈[u.size,b.size,t.size,m.size],z<o.size:=bG
 have P:=N.trans x7
 rw[aR V V]
 refine(bd _ _ _ _).aJ (J.aA _) K λb8 m8 U y _=>⟨b8,rfl,λB=>bX (λa=>nb U B ⟨a.pc.1,by have:=a.pc.2;rw[d]at this;omega⟩) (P.trans y),λB=>?_⟩
 have ak:=yb U B
 have e:=P.trans y
 have aN:=hr.len
 have aA:=Z.len
 have ar:=he.len
 refine⟨λC=>bX (λa=>by have:=a.lr;rw[d]at this;simp at C;omega) e,λC=>?_⟩
 have q1:(f.ak.length:Int)=v.ak:=by simp at C;omega
 refine⟨λD=>bX (λa=>by have:=a.lo;rw[d]at this;simp at D;omega) e,λD=>?_⟩
 have q2:(f.aS.length:Int)=v.ak:=by simp at D;omega
 refine⟨λE=>bX (λa=>by have:=a.lh;rw[d]at this;simp at E;omega) e,λE=>?_⟩
 have q3:(f.ba.length:Int)=v.ak:=by simp at E;omega
 have ai:=ah.an f (aq H)
 have ac:=((x4.trans x).trans x7).trans y
 refine(Hv (i.ext e).heap (hr.ext ac) (Z.ext ac) V ai _ _ _).aJ y K λb9 m9 W x9 ao=>⟨b9,rfl,λF=>bX (λa=>nb W F a.ak) (e.trans x9),λF=>?_⟩
 have al:=yb W F
 have q:=e.trans x9
 have mk:(nN s.an k=none->f.dst=0)->(∀p,nN s.an k=some p->0<=f.dst/\f.dst<p.aS.length/\aF p.aS f.dst=0)->KF l s.heap (nN s.an k) f:=λha hb=>
  ⟨⟨aj.1,V⟩,⟨ak.1,by rw[d];omega⟩,by rw[d];exact q1,by rw[d];exact q2,by rw[d];exact q3,al,ha,hb⟩
 refine⟨λG=>eW ?_ q,λG=>?_⟩
 .have g:k=0:=by simp at G;omega
  subst g
  refine⟨λh=>mk (λ_=>by simpa using h) (λp c=>by simp[nN]at c),λa=>by simpa using a.first rfl⟩
 .have ay:k≠0:=by simp at G;omega
  obtain⟨j,rfl⟩:∃j,k=j+1:=⟨k -1,V⟩
  have ej:cG (((j+1:Nat):Int) -1)=(j:Int):=by rw[aR V V];omega
  have ag:Int.toNat (j:Int)=j:=V
  rw[ej,ag]
  let⟨g,X⟩:=cL s.an j
  have r:nN s.an (j+1)=some g:=X
  obtain⟨r',o',e',aM,L,ap,_,_,_,_,y4,_⟩:=(i.ext q).an.aF X
  have aB:=L.len
  have aE:=L.gX
  refine⟨V,V,o',y4,?_⟩
  rw[aR V V]
  refine(bd _ _ _ _).aJ ao K λae aO S w _=>⟨ae,rfl,λh=>?_,λh=>bX (λa=>?_) (q.trans w)⟩
  .have hd:=S.1 h
   let⟨ab,hv⟩:=cL g.aS f.dst.toNat
   have ev:aF g.aS f.dst=ab:=HU hv
   refine⟨V,V,o',w.af y4,V,V,ab,(L.ext w).aF hv,eW ?_ (q.trans w)⟩
   refine⟨λh9=>mk (λY=>by rw[r]at Y;cases Y) (λp c=>by rw[r]at c;simp at c;subst c;exact⟨hd.1,V,by rw[ev];simpa using h9⟩),λa=>?_⟩
   have:=(a.next g r).2.2
   rw[ev]at this;simpa using this
  .have:=a.next g r
   exact fb S h ⟨this.1,V⟩
end
section
variable{i:Nat}{f:aY}
def Lq{b:List aY}(c:b[i]? =some f)(a:Nat):holds (b.take (i+1)) a=holds (b.take i) a+eD f.ba a:=by
 rw[aV c,eL,js]
def Oa{b:List aY}(c:b[i]? =some f)(a:Nat):fD (b.take (i+1)) a=fD (b.take i) a+di f.ak f.aS a:=by
 rw[aV c,fZ,ln]
def tL:∀{ak aS:List Int}{a:Nat}{w o:Int},ak[a]? =some w->aS[a]? =some o->∀b,di (ak.take (a+1)) (aS.take (a+1)) b=di (ak.take a) (aS.take a) b+(if w=1000+(b:Int)then o else 0)
 |[],_,_,_,_,h,_,_=>by simp at h
 |_::_,[],_,_,_,_,h,_=>by simp at h
 |r::f,p::e,0,w,o,c,d,b=>by simp at c d;subst c;subst d;simp[di]
 |r::f,p::e,a+1,w,o,c,d,b=>by
  have:=tL (ak:=f) (aS:=e) (a:=a) (by simpa using c) (by simpa using d) b;simp only[NC,di]at this⊢;omega
def Lp:∀{a:List aY}{n:Nat},(∀f∈a,f.ba.length<=n)->∀b,holds a b<=a.length*n
 |[],n,_,b=>by simp[holds]
 |f::a,n,h,b=>by
  have c:=Lp (a:=a) λg d=>h g (by simp[d]);have e:=c b;have i:=kL f.ba b;have j:=h f aN;simp only[holds,be];have:((a.length+1:Nat):Int)*n=a.length*n+n:=by push_cast;rw[Zv];omega
  omega
def Gy:∀{ak aS:List Int}{n:Int},0<=n->(∀o∈aS,0<=o/\o<=n)->∀a,0<=di ak aS a/\di ak aS a<=aS.length*n
 |[],aS,n,b,h,a=>by simp[di];exact Int.mul_nonneg V b
 |_::_,[],n,b,h,a=>by simp[di]
 |r::e,o::c,n,b,h,a=>by
  have f:=Gy (ak:=e) (aS:=c) b (λx d=>h x (by simp[d])) a;have d:=h o aN;have:((c.length+1:Nat):Int)*n=c.length*n+n:=by push_cast;rw[Zv];omega
  simp only[di,be];split<;>omega
def KA:∀{a:List aY}{n:Nat}{k:Int},0<=k->(∀f∈a,f.aS.length<=n/\∀o∈f.aS,0<=o/\o<=k)->∀b,0<=fD a b/\fD a b<=a.length*(n*k)
 |[],n,k,_,_,b=>by simp[fD]
 |f::a,n,k,c,h,b=>by
  have e:=KA (a:=a) c (λg d=>h g (by simp[d])) b;let⟨j,d⟩:=h f aN;have g:=Gy (ak:=f.ak) c d b;have i:(f.aS.length:Int)*k<=n*k:=Int.mul_le_mul_of_nonneg_right V c;have:((a.length+1:Nat):Int)*(n*k)=a.length*(n*k)+n*k:=by push_cast;rw[Zv];omega
  simp only[fD,be];omega
section
variable{m:E}{d p aU a b:O}{c:cV}{s:St}
def IM(H:gK m aU a b s)(Q:zI s)(hd:s.an.length<=41):dy cp 35 [Nz s aU a b] m (Oz s.heap s.an):=by
 apply Db;simp -zeta only[aD,aC];intro j;have y:J m j:=(J.aA m).aL _;have s1:j.size=m.size+1:=by simp[j]
 clear_value j;have hl:=H.heap.len;have av:=Q.lh;have ar:=H.an.len;have en:Int.toNat (a.len:Int)=s.heap.length:=V;rw[en];refine⟨V,V,V,V,?_⟩;intro W;have x2:J j W:=(J.aA j).aL _;have B2:cK W j.size aB ((tj s.heap.length (λ_=>0)).map Ce.i):=MC j _;clear_value W;have r:∀{N M':E},J j N->J N M'->eF [m.size] N M':=λP u=>u.dz λz r=>P.lt (by simp at r;omega);have ac:=λf A=>(Q.lr f A).2.2;refine dW (n:=s.an.length) V (λi x=>J j x/\cK x j.size aB ((tj s.heap.length (λc=>holds (s.an.take i) c)).map Ce.i)/\∀f∈s.an.take i,∀w∈f.ba,w=0\/(1000<=w/\ix w<s.heap.length)) ⟨x2,by simpa[holds]using B2,aN⟩ ?_;rintro i m3 am μ hi ⟨D,K,T⟩ al
 refine dit (λP=>?_) λP=>?_
 .let⟨f,A⟩:=cL s.an i;have R:=aq A;have au:=ac f R;have ag:(∃w∈f.ba,¬(w=0\/(1000<=w/\ix w<s.heap.length)))->¬Oz s.heap s.an:=λ⟨w,h,e⟩ v=>e (v.cQ f R w h);refine dW (n:=f.ba.length) V (λk x=>J j x/\cK x j.size aB ((tj s.heap.length (λc=>holds (s.an.take i) c+eD (f.ba.take k) c)).map Ce.i)/\∀w∈f.ba.take k,w=0\/(1000<=w/\ix w<s.heap.length)) ⟨D,by simpa[eD]using K,aN⟩ ?_;rintro k o M ν v ⟨F,G,t⟩ C;obtain⟨az,ay,q,_,_,he,_,_,_,_,_,g5⟩:=(H.ext (y.trans F)).an.aF A;have ap:=he.len;refine⟨V,V,q,by simpa using g5,dit (λu=>?_) λu=>?_⟩
  .let⟨w,h⟩:=cL f.ba k;have U:=aq h;have ak:=(Q.an f R).2.2 w U;refine⟨V,V,q,by simpa using g5,V,V,w,by simpa using he.aF h,λp=>?_,λp=>?_⟩
   .have I:w≠0:=by simpa using p
    refine(dY _ _).mono ?_;rintro _ m5 ⟨b5,rfl,aa,Y⟩;have X:=F.trans Y;refine⟨r F Y,b5,rfl,λl=>bX (ag ⟨w,U,λe=>?_⟩) (y.trans X),λl=>?_⟩
    .rcases e with e|e
     .exact I e
     .exact nb aa l e.1
    have ah:=yb aa l;have an:=ak.2;have e1:cG (w -1000)=(ix w:Nat):=by unfold ix;rw[aR V V];omega
    have e2:Int.toNat ((ix w:Nat):Int)=ix w:=V;rw[e1,e2,show cG ((a.len:Int) -1)=(a.len:Int) -1 from aR V V];refine(bd _ _ _ _).mono ?_;rintro _ m6 ⟨b6,rfl,ab,Z⟩;have ai:=X.trans Z;refine⟨r X Z,b6,rfl,λB=>bX (ag ⟨w,U,λe=>?_⟩) (y.trans ai),λB=>?_⟩
    .rcases e with e|e
     .exact I e
     .exact nb ab B ⟨V,V⟩
    have ax:=yb ab B;have S:ix w<s.heap.length:=V;have L:=G.ext (Y.trans Z);simp only[O.gL,O.jJ,O.nt,bW,eT];have q1:=Lp (a:=s.an.take i) (n:=10000000) (λaj hg=>ac aj (dF hg)) (ix w);have q2:=kL (f.ba.take k) (ix w);have q3:=wa (s.an.take i) (ix w);have q4:=iO (f.ba.take k) (ix w);have q5:(s.an.take i).length<=41:=bG;have q6:(f.ba.take k).length<=10000000:=bG;refine⟨V,V,_,ub L S,V,V,Ok L S,?_⟩;rw[show cG (holds (s.an.take i) (ix w)+eD (f.ba.take k) (ix w)+1)=holds (s.an.take i) (ix w)+eD (f.ba.take k) (ix w)+1 from aR V V];have B7:=Jl L (ix w) (holds (s.an.take i) (ix w)+eD (f.ba.take k) (ix w)+1);rw[fE (g:=λc=>holds (s.an.take i) c+eD (f.ba.take (k+1)) c)]at B7
    .refine⟨λz r=>bg _ _ _ _ (by simp at r;omega),C V _ ⟨ai.ai (ad _) _ _,B7,bE h t (Or.inr ⟨ah,S⟩)⟩⟩
    .intro z r;rw[rK h];by_cases q:z=ix w
     .subst q;rw[ao rfl,ao (iv ah).symm];omega
     .rw[ae q,ae (λaj=>q (by rw[aj,lP]))];omega
   .have I:w=0:=by simpa using p
    refine C V o ⟨F,?_,bE h t (Or.inl I)⟩;rw[fE (g:=λc=>holds (s.an.take i) c+eD (f.ba.take k) c)]
    .exact G
    .intro z r;rw[rK h,ae V];omega
  .have I:f.ba.take k=f.ba:=bZ V;rw[I]at G t;refine al V o ⟨F,?_,bE A T t⟩
   rw[fE (g:=λc=>holds (s.an.take i) c+eD f.ba c)]
   .exact G
   .intro z r;exact Lq A z
 .have I:s.an.take i=s.an:=bZ V;rw[I]at K T;simp only[O.gL,O.jJ,O.nt,bW,eT];refine dW (n:=s.heap.length) V (λk x=>x=m3/\∀(c:Nat)(h:bK),c<k->s.heap[c]? =some h->(h.aQ<0->holds s.an c=1)/\(0<=h.aQ->holds s.an c=0)) ⟨rfl,λc h S=>absurd S (eZ _)⟩ ?_;rintro k o M ν v ⟨rfl,t⟩ C;refine⟨λu=>?_,λu=>?_⟩
  .have U:k<s.heap.length:=by first|omega|(simp at u;omega)
   let⟨h,q⟩:=dG U;obtain⟨f,_,g1,_,_⟩:=(H.ext (y.trans D)).heap.aF q;have X:Int.toNat (k:Int)=k:=V;rw[X];have L:=ub K U;have iu:(h.aQ<0->holds s.an k=1)/\(0<=h.aQ->holds s.an k=0)->∀(c:Nat)(h:bK),c<k+1->s.heap[c]? =some h->(h.aQ<0->holds s.an c=1)/\(0<=h.aQ->holds s.an c=0):=λe c d S hd=>by
    rcases aX c k with R|R
    .exact t c d R hd
    .have:c=k:=V;subst this;rw[q]at hd;simp at hd;subst hd;exact e
   have Ng:(h.aQ<0->holds s.an k=1)->(0:Int)<=(k:Int)/\(k:Int)<(a.len:Int)/\∃w:Int,af o a.D (a.off+k*3)=some (vi w)/\
    ((decide (w>=(0:Int)))=true->(0:Int)<=(k:Int)/\(k:Int)<(s.heap.length:Int)/\∃F:Int,af o j.size k=some (vi F)/\
    ((F !=(0:Int))=true->∃G:Bool,vb false=.bool G/\(G=true<->Oz s.heap s.an)/\J m o)/\((F !=(0:Int))=false->M (cG ((k:Int)+1)) o/\ν (cG ((k:Int)+1)) o<ν k o))/\
    ((decide (w>=(0:Int)))=false->M (cG ((k:Int)+1)) o/\ν (cG ((k:Int)+1)) o<ν k o):=λe=>by
    refine⟨V,V,_,g1,λp=>⟨V,V,_,L,λl=>bX (λv=>?_) (y.trans D),λl=>C V _ ⟨rfl,iu ⟨e,λ_=>by simpa using l⟩⟩⟩,λp=>C V _ ⟨rfl,iu ⟨e,λB=>by simp at p;omega⟩⟩⟩
    have:=v.nC k h q (by simpa using p)
    simp at l;exact l this
   refine⟨V,V,_,g1,λp=>⟨V,V,_,L,λl=>bX (λv=>?_) (y.trans D),λl=>Ng λ_=>by simpa using l⟩,λp=>Ng λB=>by simp at p;omega⟩;have:=v.lH k h q (by simpa using p);simp at l;exact l this
  .have l:s.heap.length<=k:=by first|omega|(simp at u;omega)
   exact iY ⟨T,λc h q e=>(t c h (oh (aw q)) q).1 e,λc h q e=>(t c h (oh (aw q)) q).2 e⟩ (y.trans D)
end
end
end Go.Proofs.YtghjegjkpepmpaaGreat
