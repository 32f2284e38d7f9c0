/- Part of a proof, joined by a program. -/
import Derived.Test.YtakpkjhmbbfniaaGreatV12
import Derived.Test.YtakpkjhmbbfniaaGreatV13
import Derived.Test.YtakpkjhmbbfniaaGreatV14
set_option linter.unusedVariables false
set_option linter.unusedSimpArgs false
set_option linter.defProp false
set_option maxHeartbeats 8000000
set_option maxRecDepth 100000
namespace Go.Proofs.YtakpkjhmbbfniaaGreat
open Go.Vc
theorem Qf{m:ah}{t:Sl}{l:List Ex}(h:dC m t l){k:Nat}{x:Ex}(hk:l[k]? =some x){M:ah}(hx:af m M):∃u,dC m u x.aW/\ad M t.ao (t.off+k*3)=some (vi x.op)/\ad M t.ao (t.off+k*3+1)=some (vi x.bh)/\ad M t.ao (t.off+k*3+2)=some (Sl.v u):=
 let⟨u,h1,h2,h3,h4⟩:=h.aE hk;⟨u,h1,hx.ad h2,hx.ad h3,hx.ad h4⟩
theorem gx{M M':ah}(x:af M M'){b o:Nat}{v:Value}(h:ad M b o=some v):ad M' b o=ad M b o:=by rw[x.ad h,h]
theorem gl{M M':ah}(x:af M M'){b:Nat}(h:b<M.size)(o:Nat):ad M' b o=ad M b o:=aA (x.same b h) o
theorem Xd{ds:List aS}{nf:Nat}{op bh:Int}{aW:List Ex}(ih:∀e∈aW,aat ds nf e):aat ds nf (.mk op bh aW):=by
 intro S m0 m lb s l sc Iz ev d p t E hw hsc Q0 ly hd ht hk;have rJ:=hw.aT;simp only[exV,Ex.abO,Ex.Wt,Ex.S0,Ex.UM]at*;apply rY (lb,0);simp -zeta only[aw,ax];intro m1 m2;obtain⟨x2,hl⟩:=cv (m1:=m1) (m2:=m2) rfl rfl;have s1:m1.size=m.size+1:=by simp[m1]
 have s2:m2.size=m.size+2:=by simp[m2,s1]
 clear_value m2;have MK:=hk.len;have awm:=hk.eP;have Hw:=E.em.box.lt;have hy:=E.em.gr.aN;have XQ:=E.em.ne;have bO:∀{M:ah}{s':Sl},Fz [lb,s.ao] m M->(s'.ao=s.ao\/m.size<=s'.ao)->Le (aY [s.ao,lb] m) (aY [s'.ao,lb] M):=λf hb=>mW λb jx hn=>by
  simp at hn;exact⟨by simp;rcases hb with e|e<;>omega,f.same b jx bg⟩
 have st:∀{S':List Nat}{M:ah}{s':Sl}{l':List bu}{DB:Nat},Pd S' m0 M lb s' l' DB->Fz [lb,s.ao] m M->(s'.ao=s.ao\/m.size<=s'.ao)->(∀c∈S',c<M.size)->sc<=DB->LS S' m0 M lb s' l' DB Iz ev:=λo f hb hS hs=>⟨o,E.em.dX E.x f,hS,E.Iz.le (bO f hb),λy hy=>⟨(E.sm y hy).1,by have:=(E.sm y hy).2;omega⟩⟩;have cg:∀{M M':ah}{s':Sl},m2.size<=M.size->(s'.ao=s.ao\/m2.size<=s'.ao)->Fz [lb,s'.ao] M M'->da [m1.size,m.size] M M':=λhz hb f=>f.cg λb jx=>by simp at jx;simp;omega
 have VG:∀{M M':ah},m2.size<=M.size->af M M'->da [m1.size,m.size] M M':=λhz x=>x.cg λb hb=>by simp at hb;omega
 have fr:∀{M M':ah}{s':Sl},Fz [lb,s.ao] m M->(s'.ao=s.ao\/m2.size<=s'.ao)->Fz [lb,s'.ao] M M'->Fz [lb,s.ao] m M':=λf hb g=>f.pA g λy hy=>by simp at hy⊢;omega
 refine⟨λnJ=>?_,λnJ=>⟨λuJ=>?_,λuJ=>⟨λZi=>?_,λZi=>?_⟩⟩⟩
 ·simp only[aFZ]at nJ;obtain⟨n0,n1⟩:=rJ.1.Xc nJ;have aBg:=E.Iz.len;obtain⟨y,lj⟩:=ae (l:=ev) (k:=bh.toNat) ab;have hsy:=E.sm y (ak lj);exact⟨n0,ab,y,(cT.1 ((E.Iz.le (x2.bO _)).aE lj)).2,y,rfl,s,l,sc,E.em.ext x2,⟨[],az,(LW.av ds nf sc).eE ab ab,hsy⟩,x2.fz _,Or.inl rfl⟩
 ·simp only[aFZ]at uJ;have h2:=rJ.1.IC uJ;obtain⟨e0,ZY⟩:=ae (l:=aW) (k:=0) ab;obtain⟨e1,he1⟩:=ae (l:=aW) (k:=1) ab;have Uw:en aW=e0.n+e1.n:=by
   obtain⟨a,b,rfl⟩:∃a b,aW=[a,b]:=by
    match aW,h2 with
    |[a,b],_=>exact⟨a,b,rfl⟩
   simp at ZY he1;subst ZY he1;simp[en]
  have p0:=e0.Nm;have p1:=e1.Nm;obtain⟨u0,hu0,g0,g1,g2⟩:=Qf hk ZY (E.x.trans x2);refine⟨aO,ab,_,g0,_,g1,_,g2,?_⟩;have S2:=st (E.em.ext x2) (x2.fz _) (Or.inl rfl) (λc hc=>by have:=E.dX c hc;omega) (aFR _);refine(ih e0 (ak ZY) S m0 m2 lb s l sc Iz ev d p u0 S2 (by have:=rJ.2 0 e0 ZY;simpa[xb]using this) ab ab ab hd ht hu0).mono λv m3⟨r0,ev0,s3,l3,Zj,o3,⟨nw3,el3,w3,r00,r01⟩,f3,b3⟩=>⟨cg (aFR _) (Or.inl rfl) f3,r0,ev0,?_⟩;subst el3;have F3:=fr (x2.fz _) (Or.inl rfl) f3;have z3:=f3.size;have X3:=E.em.dX E.x F3;obtain⟨u1,hu1,k0,k1,k2⟩:=Qf hk he1 X3;have f3':=w3.lZ;have LD:=dN nw3;have hz3:=w3.sz;refine⟨aO,ab,_,k0,_,k1,_,k2,?_⟩;have S3:=st o3 F3 ab (λc hc=>by have:=E.dX c hc;omega) (by have:=w3.dd;omega);have FD:∀c∈[s3.ao,lb],c<m3.size:=λc hc=>by have:=o3.gr.aN;have:=o3.box.lt;simp at hc;omega
  intro m4;have x4:af m3 m4:=af.push _ _;have asc:aj (aY [s3.ao,lb] m4) (.mk m3.size 0 1 1) [r0]:=aj.lit au _ FD rfl rfl az;clear_value m4;refine⟨gx x4 k0,gx x4 k1,gx x4 k2,gl x4 ab _,gl x4 ab _,gl x4 ab _,?_⟩;have z4:=x4.size;refine(cS (S:=[s3.ao,lb]) (λc hc=>x4.lt (FD c hc)) (S3.Iz.le (x4.bO _)) asc bg).mono λv m5⟨w5,l5,e5,g5,q5,x5⟩=>⟨VG ab x5,w5,e5,gx x5 (x4.ad k0),gx x5 (x4.ad k1),gx x5 (x4.ad k2),gl x5 ab _,gl x5 ab _,gl x5 ab _,?_⟩;subst q5;have z5:=x5.size;have S5:LS S m0 m5 lb s3 (l++nw3) Zj w5 (ev++[r0]):=⟨(o3.ext x4).ext x5,(X3.trans x4).trans x5,λc hc=>by have:=E.dX c hc;omega,GI.done g5 (λc hc=>x4.lt (FD c hc)) bg,λy hy=>by
   rcases List.mem_append.1 hy with hy|hy
   ·have:=E.sm y hy;have:=w3.dd;omega
   ·simp at hy;omega⟩
  refine(ih e1 (ak he1) S m0 m5 lb s3 (l++nw3) Zj w5 (ev++[r0]) d p u1 S5 (by have:=rJ.2 1 e1 he1;simpa[xb,uJ]using this) ab bg bg hd ht hu1).mono λv m6⟨r1,ev1,s6,l6,sc6,o6,⟨nw6,el6,w6,FC,Hu⟩,f6,b6⟩=>⟨cg ab ab f6,r1,ev1,r1,rfl,s6,l6,sc6,o6,⟨nw3++nw6,by rw[el6,aGs],(w3.trans w6).eE ab ab,FC,Hu⟩,fr ((F3.then x4).then x5) ab f6,ab⟩
 ·simp only[aGe,aFZ]at Zi;have h3:op=7->aW.length=3:=rJ.1.ajz;have gZ:op=8->aW.length=1+(bB ds bh).length/\0<(bB ds bh).length:=rJ.1.all;have Bj:1<=aW.length:=by rcases Zi with h|h;have:=h3 h;omega;have:=gZ h;omega
  obtain⟨e0,ZY⟩:=ae (l:=aW) (k:=0) ab;have aBq:en (aW.take 1)=e0.n:=by have:=Jp ZY;simpa using this
  have aBr:=Tk aW 1;have p0:=e0.Nm;obtain⟨u0,hu0,g0,g1,g2⟩:=Qf hk ZY (E.x.trans x2);refine⟨aO,ab,_,g0,_,g1,_,g2,?_⟩;have S2:=st (E.em.ext x2) (x2.fz _) (Or.inl rfl) (λc hc=>by have:=E.dX c hc;omega) (aFR _);refine(ih e0 (ak ZY) S m0 m2 lb s l sc Iz ev d p u0 S2 (by have:=rJ.2 0 e0 ZY;simpa[xb]using this) ab ab ab hd ht hu0).mono λv m3⟨r0,ev0,s3,l3,Zj,o3,⟨nw3,el3,w3,r00,r01⟩,f3,b3⟩=>⟨cg (aFR _) (Or.inl rfl) f3,r0,ev0,?_⟩;subst el3;have F3:=fr (x2.fz _) (Or.inl rfl) f3;have z3:=f3.size;have X3:=E.em.dX E.x F3;have f3':=w3.lZ;have LD:=dN nw3;have hz3:=w3.sz;have S3:=st o3 F3 ab (λc hc=>by have:=E.dX c hc;omega) (by have:=w3.dd;omega);have YR:∀c∈s3.ao::lb::S,c<m3.size:=bd (bd (m:=m) E.dX ab o3.box.lt) (aFR _) o3.gr.aN.2;intro m4;have x4:af m3 m4:=af.push _ _;have g4:GB (s3.ao::lb::S) m3 m4 (.mk m3.size 0 0 0) []:=GB.new _ m3;have s4:m4.size=m3.size+1:=by simp[m4]
  clear_value m4;refine(eL (S:=[m3.size]) bg (hd.le (X3.trans x4).le) ht bh).mono λv m5⟨cs,cl,ec,hc,qc,x5⟩=>⟨VG ab x5,cs,ec,?_⟩;subst qc;have pt:=hc.len;have z5:=x5.size;refine RX (n:=aW.length) (MK▸hk.eP) Bj (λj ks M=>∃bl,GB (s3.ao::lb::S) m3 M ks bl/\bl.length+1=j/\(∀(i:Nat)(b:Bk),bl[i]? =some b->WB ds nf False (Zj+zT ds op bh i) b)/\bw bl+3*e0.n<=3*en (aW.take j)/\af m3 M/\Fz [m3.size] m5 M/\(ks.ao=m3.size\/m5.size<=ks.ao)) ⟨[],g4.ext pv.mono x5,rfl,az,bg,x4.trans x5,Fz.av _ _,Or.inl rfl⟩ ?_;rintro j ks M I μ hj1 hj ⟨bl,g,hlen,lP,NF,xM,fM,hks⟩ next
  have zM:=xM.size;have hgy:=g.aN;have oM:=o3.box.ext xM;refine⟨λh=>?_,λh=>?_⟩
  ·simp only[aFP]at h;have ew:bS ((j:Int) -1)=((j -1:Nat):Int):=by rw[aF ab ab];omega
   refine⟨λmany M'=>af M M'/\many=(zT ds op bh (j -1):Nat),⟨λh8=>?_,λh8=>⟨af.av _,by simp only[aFU]at h8;rw[Ka h8];rfl⟩⟩,?_⟩
   ·simp only[aFZ]at h8;have ha:=gZ h8;obtain⟨y,lj⟩:=ae (l:=bB ds bh) (k:=j -1) ab;rw[ew];refine⟨ab,ab,y,(cT.1 ((hc.le (fM.bO az)).aE lj)).2,?_⟩;refine(cw (S:=[]) az (hd.le ((X3.trans xM).le.trans (yS _))) ht y).mono λv m6⟨f6,l6,e6,h6,q6,x6⟩=>⟨VG ab x6,f6,e6,x6,?_⟩;subst q6;rw[J9 h8 lj,h6.len]
   rintro many m6 ⟨x6,rfl⟩;obtain⟨e,he⟩:=ae (l:=aW) (k:=j) ab;have X6:=(X3.trans xM).trans x6;obtain⟨u,hu,k0,k1,k2⟩:=Qf hk he X6;have B6:=oM.ext x6;have z6:=x6.size;refine⟨ab,ab,_,k0,_,k1,_,k2,_,B6.bH 1,_,B6.bH 1,?_⟩;have b3':=RD ht op bh (j -1);have het:=Jp he;have hej:=Tk aW (j+1);have ZQ:=e.Nm;refine(jt (S:=[]) (m:=m6) az Zj (zT ds op bh (j -1)) ab).mono λv m7⟨s7,l7,e7,g7,q7,x7⟩=>⟨VG ab x7,s7,e7,gx x7 (B6.bH 1),gx x7 k0,gx x7 k1,gx x7 k2,gl x7 ab _,gl x7 ab _,gl x7 ab _,?_⟩;have z7:=x7.size;have asd:aj (aY [] m7) Iz ev:=(S3.Iz.le ((((xM.trans x6).trans x7).bO _).trans (aV _ _))).le (yS _);refine(cS (S:=[]) az asd (GI.done g7 az ab) ab).mono λv m8⟨s8,l8,e8,g8,q8,x8⟩=>⟨VG ab x8,s8,e8,gx x8 ((B6.ext x7).bH 1),gx x8 (x7.ad k0),gx x8 (x7.ad k1),gx x8 (x7.ad k2),gl x8 ab _,gl x8 ab _,gl x8 ab _,?_⟩;subst q8;have z8:=x8.size;have mG:(ev++l7).length=ev.length+zT ds op bh (j -1):=by simp;exact q7.2
   rw[aF (x:=(Zj:Int)+(zT ds op bh (j -1):Nat)) ab ab,show(Zj:Int)+(zT ds op bh (j -1):Nat)=((Zj+zT ds op bh (j -1):Nat):Int)by omega];have x68:=(x6.trans x7).trans x8;have hwe:WX ds nf (ev++l7).length e:=by
    have:=rJ.2 j e he;rw[mG];obtain⟨j',rfl⟩:∃j',j=j'+1:=⟨j -1,ab⟩;have e13:xb ds op bh (j'+1)=zT ds op bh j':=aFS (by simpa using uJ);rwa[e13]at this
   refine(BJ (ih e (ak he)) (ks.ao::s3.ao::lb::S) m8 _ s8 (ev++l7) d p u (bd (λc hc=>by have:=YR c hc;omega) (aFR _) ab) ((GI.done g8 az ab).le (aV _ _)) (λy hy=>?_) hwe ab ab (hd.le ((X6.trans x7).trans x8).le) ht (dC.le ((X6.trans x7).trans x8).le hu)).mono λv m9⟨s9,b9,e9,h9,q9,x9⟩=>⟨VG ab x9,s9,_,e9,?_⟩
   ·rcases List.mem_append.1 hy with hy|hy
    ·have:=S3.sm y hy;omega
    ·have:=q7.1 y hy;omega
   intro cK;have z9:=x9.size;have Ln:=nW bl;refine GB.iN (b:=b9) ((g.ext pv.mono x68).ext pv.mono x9) (((xM.trans x68).trans x9).fz []) h9 ab λr M' g' f' z' q'=>⟨λb hb=>by
    have uD:b<m3.size:=by simp at hb;omega
    rw[f'.ext.same b uD,(((xM.trans x68).trans x9).aC _).same b uD],next ab _ _ ⟨_,g',by rw[aF4,List.length_singleton];omega,λi b hi=>?_,?_,f'.ext,(fM.then (x68.trans x9)).pA (Y:=[ks.ao]) ⟨z'.1,λb hb hn=>q' b hb (by simpa using hn)⟩ (λy hy=>by simp at hy⊢;omega),by have:=fM.size;omega⟩⟩
   ·rcases aF1 i bl.length with iy|iy
    ·rw[aFV iy]at hi;exact lP i b hi
    ·rw[aFX iy]at hi;have:i -bl.length=0:=by have:=ap hi;simp at this;omega
     rw[this]at hi;simp at hi;subst hi;have:i=j -1:=ab;subst this;exact q9.1
   ·rw[mz,sI,yO];have:=q9.2;omega
  ·simp only[aFQ]at h;have ZF:j=aW.length:=ab;subst ZF;rw[aGG]at NF;intro m6;have x6:af M m6:=af.push _ _;have SL:aj (aY (s3.ao::lb::S) m6) (.mk M.size 0 1 1) [r0]:=aj.lit au _ (λc hc=>by have:=YR c hc;omega) rfl rfl az;have z6:=x6.size;have hks:lA (aY (s3.ao::lb::S) m6) ks bl:=lA.le (x6.bO _) (g.done pv.mono YR aO (by have:=nW bl;omega));clear_value m6;have X6:=xM.trans x6;refine(KJ (x:=⟨op,bh,0,[r0],bl⟩) (o3.ext X6) (X3.trans X6).size SL hks bg ab).mono λv m7⟨ev7,s7,l7,sc7,o7,⟨el7,es7⟩,f7,b7⟩=>⟨cg ab ab f7,Zj,ev7,Zj,rfl,s7,l7,sc7,o7,⟨nw3++[⟨op,bh,0,[r0],bl⟩],by rw[el7,aGs],?_,ab,ab⟩,fr (F3.then X6) ab f7,ab⟩;have ws:WS ds nf False Zj ⟨op,bh,0,[r0],bl⟩:=⟨⟨Or.inl (by show 0<=op/\op<=11;omega),bg,λ_=>rfl,⟨by show(0:Int)<=0;omega,by show(0:Int)<=_;omega⟩,λh=>by show bl.length=2;have:=h3 h;omega,λh=>by show bl.length=(bB ds bh).length/\0<bl.length;have:=gZ h;omega,λh=>by simp only at h;omega⟩,lP⟩;subst es7;exact(w3.trans (LW.jm ws)).eE (by rw[bu.jD];simp only[aF5,aGv];omega) ab
 ·simp only[aF9,aFU]at Zi;simp only[aFU]at nJ uJ;have ho:=rJ.1.o;intro m3;have x3:af m2 m3:=af.push _ _;have g3:GI [] m2 m3 (.mk m2.size 0 0 0) []:=GI.nil [] m2;have Zk:m3.size=m2.size+1:=by simp[m3]
  clear_value m3;have o3:Pd (m2.size::S) m0 m3 lb s l sc:=(E.em.ext x2).re (x3.fz []) az λb hb=>(List.mem_cons.1 hb).elim (λh=>Or.inr ab) Or.inl;refine cN (n:=aW.length) (MK▸hk.eP) (λj a M=>∃s' DB nw al,Pd (a.ao::S) m0 M lb s' (l++nw) DB/\LW ds nf sc nw (3*en (aW.take j) -j) (en (aW.take j)) DB/\GI [] m2 M a al/\al.length=j/\(∀y∈al,0<=y/\y<(DB:Int))/\Fz [lb,s.ao] m M/\(s'.ao=s.ao\/m2.size<=s'.ao)/\m2.size<=M.size) ⟨s,sc,[],[],by simpa using o3,(LW.av ds nf sc).eE (aGq _) (aGq _),g3,rfl,az,(x2.trans x3).fz _,Or.inl rfl,ab⟩ ?_;rintro j a M I μ hj ⟨s',DB,nw,al,o,w,g,hlen,xp,fM,hb,zM⟩ next
  have XM:=E.em.dX E.x fM;have ase:=w.lZ;have Hy:=w.dd;have hgy:=g.aN;have ne1:a.ao≠lb:=g.ne o.box aO;have JZ:a.ao≠s'.ao:=g.JZ o.gr aO;have Ju:=dN nw;have hnz:=w.sz;have hej:=Tk aW j;refine⟨λh=>?_,λh=>?_⟩
  ·simp only[aFP]at h;obtain⟨e,he⟩:=ae (l:=aW) (k:=j) ab;obtain⟨u,hu,k0,k1,k2⟩:=Qf hk he XM;have het:=Jp he;have aBz:=Tk aW (j+1);have ZQ:=e.Nm;have hjl:=RC (aW.take j);rw[aGH,aGV ab]at hjl;refine⟨ab,ab,_,k0,_,k1,_,k2,?_⟩;have SM:=st o fM ab (bd (m:=m) E.dX ab hgy.2) ab;refine(ih e (ak he) (a.ao::S) m0 M lb s' (l++nw) DB Iz ev d p u SM (by have:=rJ.2 j e he;rwa[ajA ab ab]at this) ab ab bg hd ht hu).mono λv m4⟨r,er,s4,l4,sc4,o4,⟨nw4,el4,w4,r0,r1⟩,f4,b4⟩=>⟨cg zM hb f4,r,er,?_⟩;subst el4;have z4:=f4.size;have F4:=fr fM hb f4;intro m5;have ga:GI [] m2 m4 a al:=GI.any (S:=[lb,s'.ao]) ((GI.any (S':=[lb,s'.ao]) g).Nb rP.mono f4 (λ_ h=>h) (by simp;exact⟨ne1,JZ⟩));have ne3:a.ao≠s4.ao:=ga.JZ o4.gr aO;refine GI.iN ga (X:=List.range m2.size) ⟨ab,λb hb hn=>absurd (List.mem_range.2 hb) hn⟩ az ab λa' M' g' f' z' q'=>?_;have fa:Fz [a.ao] m4 M':=⟨z'.1,λb hb hn=>q' b hb (by simpa using hn)⟩;refine⟨λb hb=>?_,next ab _ _ ⟨s4,sc4,nw++nw4,al++[r],?_,(w.trans w4).eE ab ab,g',bg,λy hy=>?_,F4.pA fa λy hy=>by simp at hy⊢;omega,ab,ab⟩⟩
   ·simp at hb;rw[q' b ab ab,(af.push m4 _).same b ab]
   ·rw[<-aGs];exact o4.re fa (by simp;exact⟨ne1,ne3⟩) λb hb=>(List.mem_cons.1 hb).elim (λe=>by subst e;rcases z'.2 with e|e;exact Or.inl (by simp[e]);exact Or.inr e) λh=>Or.inl (aFT _ h)
   ·have:=w4.dd;rcases List.mem_append.1 hy with hy|hy
    ·have:=xp y hy;omega
    ·simp at hy;omega
  ·simp only[aFQ]at h;have ZF:j=aW.length:=ab;subst ZF;rw[aGG]at w ase hnz;have jk:=RC aW;intro m4;have x4:af M m4:=af.push _ _;have nS:a.ao∉s'.ao::lb::S:=by
    simp only[aF0,aHO];exact⟨JZ,ne1,λh=>by have:=E.dX _ h;omega⟩
   have ha:aj (aY (s'.ao::lb::S) M) a al:=(GI.any (S':=s'.ao::lb::S) g).lB rP.mono nS aO ab;have oS:Pd S m0 M lb s' (l++nw) DB:=o.re (Fz.av [] _) az λb hb=>Or.inl (aFT _ hb);have z4:=x4.size;refine(KJ (x:=⟨op,bh,0,al,[]⟩) (oS.ext x4) (XM.trans x4).size (ha.le (x4.bO _)) (jM _ _ _ _ _ _) bg ab).mono λv m5⟨ev5,s5,l5,sc5,o5,⟨el5,es5⟩,f5,b5⟩=>⟨cg ab hb f5,DB,ev5,DB,rfl,s5,l5,sc5,o5,⟨nw++[⟨op,bh,0,al,[]⟩],by rw[el5,aGs],?_,ab,ab⟩,fr (fM.then x4) hb f5,ab⟩;have ws:WS ds nf False DB ⟨op,bh,0,al,[]⟩:=⟨⟨Or.inl (by show 0<=op/\op<=11;omega),xp,λh=>by simp only at h;omega,⟨by show(0:Int)<=0;omega,by show(0:Int)<=_;omega⟩,λh=>by simp only at h;omega,λh=>by simp only at h;omega,rJ.1.call⟩,az⟩;subst es5;exact(w.trans (LW.jm ws)).eE (by rw[bu.jD];simp only[yO];omega) ab
theorem Xe{ds:List aS}{nf:Nat}:∀e:Ex,aat ds nf e:=Ex.ind λ_ _ _ ih=>Xd ih
theorem Hb{S:List Nat}{m:ah}(hS:∀c∈S,c<m.size){d p:Sl}{ds:List aS}{l:List (bY×Ex)}(hd:br m d ds)(hp:afl m p l)(lx:afm ds l):tw 156 [.agg #[Sl.v d,Sl.v p]] m S ds λrs=>xc ds rs False 95:=by
 apply yw;simp -zeta only[aw,ax];have ht:=rq lx.gp.ds;intro a1 a2;obtain⟨x2,hl⟩:=cv (m1:=a1) (m2:=a2) rfl rfl;have s1:a1.size=m.size+1:=by simp[a1]
 clear_value a2;have tA:=hp.len;have Pe:l.length<=4:=by have:=lx.gp.lZ;simpa using this
 have hp0:0<l.length:=by have:=lx.gp.eZ;simpa using this
 refine(dI (S:=a1.size::S) (bd hS x2.size (hl _ az)) (hd.le x2.le) ht).mono λ_ m2⟨dd,e,Hy,x3⟩=>?_;subst e;refine⟨x3.cg hl,_,rfl,?_⟩;intro m3 m4 m5;have u2:=x2.trans x3;obtain⟨x5,B0,g0,s3,s5⟩:=iR (S:=m3.size::a1.size::S) fg.mono (m2:=m2) (m3:=m3) (m4:=m4) (m5:=m5) rfl rfl rfl;clear_value m5;have oC:∀c∈[a1.size,m.size],c<m2.size:=λc hc=>x3.lt (hl c hc);have kX:∀c∈a1.size::S,c<m2.size:=λc hc=>x3.lt (bd hS x2.size (hl _ az) c hc);refine iI (R:=λv0 v1 M=>∃d r rs,Value.agg #[Sl.v v0,Sl.v v1]=.agg #[Sl.v d,Sl.v r]/\cR (aY S M) d r ds rs/\xc ds rs False 95/\af m M) (n:=l.length) (m:=m) (S:=S) fg.mono aO aO hS ⟨ab,oC _ az⟩ u2 s3 Hy tA ab x5 B0 g0 (λ_ q=>q.params.length<=3/\q.bX.length<=3/\WB ds l.length False q.params.length q.body/\q.body.w<=95) (λd' r' l' m' h1 h2 h3 h4 h5=>⟨d',r',l',rfl,⟨h1,h2,ht,ab⟩,⟨ab,λq hq=>by obtain⟨i,hi⟩:=List.mem_iff_getElem?.1 hq;rw[h3];exact h4 i q hi⟩,h5⟩) λk M st l' I μ Bj hlen xM g B next=>?_
 obtain⟨q,hq⟩:=ae (l:=l) (k:=k) Bj;obtain⟨hwx,aBI⟩:=lx.zc q (ak hq);have hq3:q.1.params.length<=3:=(vG _ (lx.gp.cq q.1 (List.mem_map.2 ⟨q,ak hq,rfl⟩))).1;have v6:=u2.trans xM;obtain⟨cs,⟨a,t,rfl,ha,hk⟩,hr⟩:=hp.iu k q hq;have FH:=ha.len;refine⟨ab,ab,_,v6.ad (hr 0 _ rfl),_,v6.ad (hr 1 _ rfl),_,v6.ad (hr 2 _ rfl),_,v6.ad (hr 3 _ rfl),_,v6.ad (hr 4 _ rfl),?_⟩;intro m7 m8;have hy:=g.aN;have MJ:=B.lt;have zM:=xM.size;obtain⟨x8,-,s8⟩:=iA (M:=M) (m1:=m7) (m2:=m8) rfl rfl rfl;clear_value m8;have mG:∀c∈[M.size,a1.size,m.size],c<m8.size:=λc hc=>by
  rcases List.mem_cons.1 hc with e|e
  ·omega
  ·have:=oC c e;omega
 have w8:=v6.trans x8;have OZ:∀{M':ah},m8.size<=M'.size->∀c∈st.ao::m3.size::a1.size::S,c<M'.size:=λh c hc=>by
  simp only[aF0]at hc;rcases hc with e|e|e|e
  ·omega
  ·omega
  ·have:=kX c (by simp[e]);omega
  ·have:=kX c (by simp[e]);omega
 have hm:=u2.size;have al1:∀{M':ah},af m8 M'->∀{K:Value->ah->Prop},(∀s lv M2,aj M2 s lv->lv.length=q.1.params.length->(∀y∈lv,0<=y/\y<(q.1.params.length:Int))->af M' M2->K (Sl.v s) M2)->aD Tryz.prog 88 [vi 0,vi (a.len:Int)] M' K:=λ{M'} x K sa=>by
  rw[FH];exact(jt (S:=[]) (m:=M') az 0 q.1.params.length ab).mono λv M2⟨s,lv,e,gn,qn,xn⟩=>by
   subst e;exact sa s lv M2 ((GI.done gn az ab).le (aV _ _)) qn.2 (λy hy=>by have:=qn.1 y hy;omega) xn
 have dX:∀{M':ah}{S':List Nat}{s:Sl}{lv:List Int},(∀c∈S',c<M'.size)->af m8 M'->aj M' s lv->lv.length=q.1.params.length->(∀y∈lv,0<=y/\y<(q.1.params.length:Int))->k8 179 [.agg #[Sl.v d,Sl.v p],.agg #[vi q.2.op,vi q.2.bh,Sl.v t],Sl.v s,vi (a.len:Int)] M' S' λb=>WB ds l.length False q.1.params.length b/\b.w<=3*q.2.n:=λQ3 x hs h1 h2=>by
  rw[FH];exact BJ (Xe q.2) _ _ q.1.params.length _ _ d p t Q3 hs h2 (by rw[h1];exact hwx) ab ab (hd.le (w8.trans x).le) ht (dC.le (w8.trans x).le hk)
 have G:∀{M1 M2:ah}{b o:Nat},m8.size<=M1.size->af M1 M2->b<m8.size->ad M2 b o=ad M1 b o:=λh x hb=>gl x ab _;have i0:M.size<m8.size:=ab;have im:m.size<m8.size:=mG _ az;refine⟨λb M'=>∃sb ao,b.2=0/\m8.size<=b.1/\bK M' b.1 bU [.s sb,.i ao.aH]/\cU (aY (st.ao::m3.size::a1.size::S) M') sb ao.ar/\(WB ds l.length False q.1.params.length ao/\ao.w<=3*q.2.n)/\af m8 M',⟨?_,?_⟩,?_⟩
 ·refine al1 (af.av m8) λs lv m9 hs QC tB x9=>⟨x9.cg mG,s,rfl,G (aFR _) x9 i0,G (aFR _) x9 i0,G (aFR _) x9 i0,G (aFR _) x9 im,G (aFR _) x9 im,?_,?_⟩;all_goals have z9:=x9.size
  ·refine(dX (S':=st.ao::m3.size::a1.size::S) (OZ z9) x9 hs QC tB).mono λv cK⟨sb,ao,e,ln,q10,cO⟩=>⟨cO.cg λc hc=>x9.lt (mG c hc),sb,_,e,?_⟩;have wh:=cO.size;intro dm;have eB:af cK dm:=af.push _ _;refine⟨G ab eB i0,G ab eB i0,G ab eB i0,G ab eB im,G ab eB im,?_⟩;intro df;obtain⟨fW,VV,MH⟩:=iA (M:=cK) (m1:=dm) (m2:=df) rfl rfl rfl;exact⟨sb,ao,rfl,by show m8.size<=cK.size;omega,VV,cU.le (fW.bO _) ln,q10,(x9.trans cO).trans fW⟩
  ·intro cK;have cO:af m9 cK:=af.push _ _;have V8:bK cK m9.size bU [.s .nil,.i 0]:=bK.push _ _ _;have wh:=cO.size;clear_value cK;refine⟨G z9 cO i0,G z9 cO i0,G z9 cO i0,G z9 cO im,G z9 cO im,?_⟩;refine(dX (S':=m9.size::st.ao::m3.size::a1.size::S) (bd (OZ z9) wh V8.lt) (x9.trans cO) (hs.ext cO) QC tB).mono λv dm⟨sb,ao,e,jV,q11,eB⟩=>⟨eB.cg λc hc=>?_,sb,_,e,?_⟩
   ·rcases List.mem_cons.1 hc with e|e
    ·rw[e];exact V8.lt
    ·have:=mG c e;omega
   intro df;exact⟨sb,ao,rfl,z9,bK.ag (m:=dm) (o:=0) (r:=[.s sb,.i ao.aH]) (V8.ext eB),cU.le (bt az λc hc=>aFT _ hc) jV,q11,((x9.trans cO).trans eB).ag z9 _ _⟩
 ·intro m9;have x9:af m8 m9:=af.push _ _;have B9:bK m9 m8.size bU [.s .nil,.i 0]:=bK.push _ _ _;have z9:=x9.size;clear_value m9;refine⟨G (aFR _) x9 i0,G (aFR _) x9 i0,G (aFR _) x9 i0,G (aFR _) x9 im,G (aFR _) x9 im,?_⟩;have sm:∀{M1 M2:ah},m9.size<=M1.size->af M1 M2->da [m8.size,M.size,a1.size,m.size] M1 M2:=λh x=>x.cg λc hc=>by
   rcases List.mem_cons.1 hc with e|e
   ·have:=B9.lt;omega
   ·have:=mG c e;omega
  refine al1 x9 λs lv cK hs QC tB cO=>⟨sm (aFR _) cO,s,rfl,G z9 cO i0,G z9 cO i0,G z9 cO i0,G z9 cO im,G z9 cO im,?_⟩;have wh:=cO.size;refine(dX (S':=m8.size::st.ao::m3.size::a1.size::S) (bd (OZ (M':=cK) ab) (aFR _) (by have:=B9.lt;omega)) (x9.trans cO) hs QC tB).mono λv dm⟨sb,ao,e,jV,q11,eB⟩=>⟨sm wh eB,sb,_,e,?_⟩;intro df;exact⟨sb,ao,rfl,aFR _,bK.ag (m:=dm) (o:=0) (r:=[.s sb,.i ao.aH]) ((B9.ext cO).ext eB),cU.le (bt az λc hc=>aFT _ hc) jV,q11,((x9.trans cO).trans eB).ag (aFR _) _ _⟩
 rintro⟨kb,o⟩ M1 ⟨sb,ao,ho,hkb,BB,hsb,lP,x1⟩;simp only at ho hkb BB;subst ho;have bl:=BB.lt;have z1:=x1.size;have X1:=x8.trans x1;refine⟨st,(B.ext X1).bH 1,_,BB.bH 0,_,BB.bH 1,?_⟩;have im3:m3.size<m8.size:=ab;have fG:∀{M2:ah}{a' b':Sl},af M1 M2->aj (aY (st.ao::m3.size::a1.size::S) M2) a' q.1.params->aj (aY (st.ao::m3.size::a1.size::S) M2) b' []->ad (M2.push (.cells (aU [.s a',.s b',.i q.1.aH,.s sb,.i ao.aH]) gC)) m3.size 1=ad M2 m3.size 1/\
  gA (M2.push (.cells (aU [.s a',.s b',.i q.1.aH,.s sb,.i ao.aH]) gC)) gC [.s .nil,.s .nil,.i 0,.s .nil,.i 0] 88 st (Sl.mk M2.size 0 1 1) λr M3=>da [M.size,a1.size,m.size] (M2.push (.cells (aU [.s a',.s b',.i q.1.aH,.s sb,.i ao.aH]) gC)) M3/\dW M3 m3.size 1 1/\(da [M.size,a1.size,m.size] M3 (ag M3 m3.size 1 [.s r])/\(I (bS ((k:Int)+1)) (ag M3 m3.size 1 [.s r])/\μ (bS ((k:Int)+1)) (ag M3 m3.size 1 [.s r])<μ k M)):=λx2 h1 h2=>
  Gr.box (zs:=[.s .nil,.s .nil,.i 0,.s .nil,.i 0]) (i:=1) (bytes:=88) (bc:=[.s dd,.s st]) (a:=⟨q.1.params,[],q.1.aH,ao⟩) fg.mono aO ((g.ext fg.mono X1).ext fg.mono x2) (((xM.trans X1).trans x2).fz []) ⟨_,_,sb,rfl,h1,h2,cU.le (x2.bO _) hsb⟩ ab ((B.ext X1).ext x2) az aO ⟨ab,az⟩ (λc hc=>⟨by have:=mG c hc;have:=x2.size;omega,by
   rcases List.mem_cons.1 hc with e|e
   ·omega
   ·have:=oC c e;omega,by
   rcases List.mem_cons.1 hc with e|e
   ·omega
   ·have:=oC c e;omega⟩) λr m' g' B' f' z' q'=>next r m' ⟨q.1.params,[],q.1.aH,ao⟩ g' B' f'.ext ⟨hq3,az,lP.1,by have:=lP.2;show ao.w<=95;omega⟩
 have haM:∀{M2:ah},af M1 M2->aj M2 a q.1.params:=λx=>ha.ext ((v6.trans X1).trans x);have Sv:∀{M2:ah},af M1 M2->∀c∈st.ao::m3.size::a1.size::S,c<M2.size:=λx=>OZ (by have:=x.size;omega);have g1:∀{M2 M3:ah}{o:Nat},af M1 M2->af M2 M3->ad M3 kb o=ad M2 kb o:=λx x'=>gl x' (by have:=x.size;omega) _;have sm1:∀{M2 M3:ah},af M1 M2->af M2 M3->da [M.size,a1.size,m.size] M2 M3:=λx x'=>x'.cg λc hc=>by have:=mG c hc;have:=x.size;omega
 refine⟨?_,?_⟩
 ·refine(ba (st.ao::m3.size::a1.size::S) (haM (af.av _)) ab).mono λ_ m9⟨a',la,e,ga,ea,x9⟩=>⟨sm1 (af.av _) x9,a',e,g1 (af.av _) x9,g1 (af.av _) x9,G z1 x9 i0,G z1 x9 im3,?_⟩;subst ea;have z9:=x9.size;intro cK;have cO:af m9 cK:=af.push _ _;refine⟨g1 x9 cO,g1 x9 cO,G ab cO i0,G ab cO i0,G ab cO im3,?_⟩;exact fG (x9.trans cO) ((GI.done ga (Sv (af.av _)) ab).le (cO.bO _)) (jM _ _ _ _ _ _)
 ·intro m9;have x9:af M1 m9:=af.push _ _;have z9:=x9.size;refine⟨g1 (af.av _) x9,g1 (af.av _) x9,G z1 x9 i0,G z1 x9 i0,G z1 x9 im3,?_⟩;refine(ba (st.ao::m3.size::a1.size::S) (haM x9) ab).mono λ_ cK⟨a',la,e,ga,ea,cO⟩=>⟨sm1 x9 cO,a',e,g1 x9 cO,g1 x9 cO,G ab cO i0,G ab cO im3,?_⟩;subst ea;exact fG (x9.trans cO) (GI.done ga (Sv x9) ab) (jM _ _ _ _ _ _)
section
def De(P:Nat->Prop)(l l':List Instr)(n:Nat):Prop:=∃nw,l'=l++nw/\(∀(i:Nat)(x:Instr),nw[i]? =some x->P9 (l.length+i) x\/P (l.length+i)/\x.op=22)/\RN nw/\nw.length<=n
section
variable{P P':Nat->Prop}{l l' VE:List Instr}{n n' k:Nat}{x:Instr}
theorem kC.w(h:kC l l' n):De P l l' n:=let⟨nw,a,b,c,d⟩:=h;⟨nw,a,λi x hi=>Or.inl (b i x hi),c,d⟩
theorem De.ajE(h:De P l l' n)(hP:∀q,¬P q)(hn:n<=n'):kC l l' n':=let⟨nw,a,b,c,d⟩:=h;⟨nw,a,λi x hi=>(b i x hi).resolve_right λh=>hP _ h.1,c,ab⟩
theorem De.imp(h:De P l l' n)(hP:∀q,P q->P' q)(hn:n<=n'):De P' l l' n':=let⟨nw,a,b,c,d⟩:=h;⟨nw,a,λi x hi=>(b i x hi).imp id λh=>⟨hP _ h.1,h.2⟩,c,ab⟩
theorem De.len(h:De P l l' n):l.length<=l'.length/\l'.length<=l.length+n:=by obtain⟨nw,rfl,-,-,d⟩:=h;simp;omega
theorem De.then(h:De P l l' n)(h':kC l' VE n'):De P l VE (n+n'):=by
 obtain⟨nw,rfl,b,c,d⟩:=h;obtain⟨nw',rfl,b',c',d'⟩:=h';refine⟨nw++nw',az,λi x hi=>?_,λx hx=>?_,bg⟩
 ·rcases aF1 i nw.length with iy|iy
  ·rw[aFV iy]at hi;exact b i x hi
  ·rw[aFX iy]at hi;have:=b' _ x hi;have e:(l++nw).length+(i -nw.length)=l.length+i:=bg;rw[e]at this;exact Or.inl this
 ·exact(List.mem_append.1 hx).elim (c x) (c' x)
theorem De.Mu(h:De P l l' n)(hp:P l'.length):De P l (l'++[⟨22,0,0,0,[],[]⟩]) (n+1):=by
 obtain⟨nw,rfl,b,c,d⟩:=h;refine⟨nw++[⟨22,0,0,0,[],[]⟩],az,λi x hi=>?_,λx hx=>?_,bg⟩
 ·rcases aF1 i nw.length with iy|iy
  ·rw[aFV iy]at hi;exact b i x hi
  ·rw[aFX iy]at hi;have:i -nw.length=0:=by have:=ap hi;simp at this;omega
   rw[this]at hi;simp at hi;subst hi;have e:i=nw.length:=ab;subst e;exact Or.inr ⟨by simpa using hp,rfl⟩
 ·rcases List.mem_append.1 hx with h|h
  ·exact c x h
  ·simp at h;subst h;simp
theorem De.set(h:De P l l' n)(hk:l.length<=k)(hx:P9 k x)(hs:x.args.length<=1000000000000/\x.cW.length<=1000000000000):De (λq=>P q/\q≠k) l (l'.set k x) n:=by
 obtain⟨nw,rfl,b,c,d⟩:=h;refine⟨nw.set (k -l.length) x,by rw[aH8 _ _ hk],λi y hi=>?_,λy hy=>?_,bg⟩
 ·rw[aGR]at hi;split at hi
  ·rename_i e;have e':l.length+i=k:=ab;split at hi
   ·simp at hi;subst hi;rw[e'];exact Or.inl hx
   ·simp at hi
  ·exact(b i y hi).imp id λh=>⟨⟨h.1,ab⟩,h.2⟩
 ·rcases aGd hy with h|h
  ·exact c y h
  ·rw[h];exact hs
theorem De.aim(h:De P l l' n)(hk:l.length<=k)(hx:l'[k]? =some x):De (λq=>P q/\q≠k) l (l'.set k ⟨x.op,0,l'.length,0,x.args,x.cW⟩) n:=by
 have cA:=ap hx;have h':=h;obtain⟨nw,rfl,b,c,d⟩:=h;rw[aFX hk]at hx;have hb:=b _ x hx;rw[show l.length+(k -l.length)=k by omega]at hb;refine h'.set hk ⟨λ_=>by show(k:Int)<((l++nw).length:Nat);omega,λh=>?_⟩ (c x (ak hx));simp only at h;rcases hb with hb|hb
 ·exact hb.arg h
 ·omega
end
section
variable{S:List Nat}{mb m m':ah}{eb:Nat}{s s':Sl}{l l':List Instr}
theorem DC.re{S' Y:List Nat}(h:DC S mb m eb s l)(hf:Fz Y m m')(hY:∀b∈Y,b∈S/\b≠eb/\b≠s.ao)(hS:∀b∈S',b∈S\/m.size<=b):DC S' mb m' eb s l:=
 ⟨h.box.congr (hf.same _ h.box.lt λhm=>(hY _ hm).2.1 rfl),h.gr.re cD.mono hf (λb hb=>aFT _ (hY b hb).1) (λhm=>(hY _ hm).2.2 rfl) λb hb=>(List.mem_cons.1 hb).elim (λe=>Or.inl (by rw[e];exact aF3)) λhb=>(hS b hb).imp (aFT _) id,h.up⟩
theorem Hc{L:List Nat}{K:Int->ah->Prop}(h:DC S mb m eb s l)(hx:af mb m)(hS:∀c∈S,c<m.size)(hb:l.length<=1000000000000)(hL:∀b∈L,b<m.size/\b≠eb/\b≠s.ao){op dst bh v:Int}(hk:∀s' l' m',DC S mb m' eb s' l'->l'=l++[⟨op,dst,bh,0,[v],[]⟩]->Fz [eb,s.ao] m m'->(s'.ao=s.ao\/m.size<=s'.ao)->K (l.length:Nat) m'):
 aD Tryz.prog 90 [vp eb 0,.agg #[vi op,vi dst,vi bh,vi 0,Sl.v (.mk m.size 0 1 1),Sl.v .nil]] (m.push (.cells (aU [.i v]) au)) λr m'=>da L (m.push (.cells (aU [.i v]) au)) m'/\∃n:Int,r=vi n/\K n m':=by
 have x:=af.push m (.cells (aU [.i v]) au)
 have hy:=h.gr.aN;have BQ:=h.box.lt
 have lit:aj (aY (s.ao::eb::S) (m.push (.cells (aU [.i v]) au))) (.mk m.size 0 1 1) [v]:=aj.lit au _ (by
  intro c hc;simp only[aF0]at hc;rcases hc with e|e|e
  ·omega
  ·omega
  ·exact hS c e) rfl rfl az
 refine(om (x:=⟨op,dst,bh,0,[v],[]⟩) (h.ext x) (hx.trans x).size lit (rp _) hb).mono λr m'⟨er,s',l',h',e',f',b'⟩=>⟨Qa.cg f' λb hb=>?_,_,er,?_⟩
 ·have:=hL b hb;exact⟨x.lt this.1,this.2⟩
 exact hk s' l' m' h' e'.symm (((x.fz [eb,s.ao])).trans f') (by have:=x.size;omega)
theorem Xf{L:List Nat}{K:Int->ah->Prop}(h:DC S mb m eb s l)(hx:af mb m)(hb:l.length<=1000000000000)(hL:∀b∈L,b<m.size/\b≠eb/\b≠s.ao)(hk:∀s' l' m',DC S mb m' eb s' l'->l'=l++[⟨22,0,0,0,[],[]⟩]->Fz [eb,s.ao] m m'->(s'.ao=s.ao\/m.size<=s'.ao)->K (l.length:Nat) m'):
 aD Tryz.prog 90 [vp eb 0,.agg #[vi 22,vi 0,vi 0,vi 0,Sl.v .nil,Sl.v .nil]] m λr m'=>da L m m'/\∃n:Int,r=vi n/\K n m':=
 (om (x:=⟨22,0,0,0,[],[]⟩) h hx.size (rp _) (rp _) hb).mono λr m'⟨er,s',l',h',e',f',b'⟩=>⟨Qa.cg f' hL,_,er,hk s' l' m' h' e'.symm f' b'⟩
theorem Xg{L:List Nat}{K:ah->Prop}{k:Nat}{x:Instr}(h:DC S mb m eb s l)(hx:af mb m)(Bj:l[k]? =some x)(hL:∀b∈L,b<m.size/\b≠eb/\b≠s.ao)(hk:∀s' l' m',DC S mb m' eb s' l'->l'=l.set k ⟨x.op,0,l.length,0,x.args,x.cW⟩->Fz [eb,s.ao] m m'->(s'.ao=s.ao\/m.size<=s'.ao)->K m'):
 aD Tryz.prog 154 [vp eb 0,vi k] m λ_ m'=>da L m m'/\K m':=
 (RP h hx.size Bj).mono λr m'⟨s',l',h',e',f',b'⟩=>⟨Qa.cg f' hL,hk s' l' m' h' e'.symm f' b'⟩
end
theorem R9{l:List Instr}{d v:Int}:kC l (l++[⟨18,d,0,0,[v],[]⟩]) 1:=kC.jm ⟨λh=>by simp at h,λ_=>az⟩ az
end
theorem KK{ds:List aS}{rs:List di}{x:bu}(Zi:x.op=7\/x.op=8)(ih:∀b∈x.aW,afi ds rs b):ajx ds rs x:=by
 intro S mb m eb s l cons first cl fl d r a k E0 oA pt ly hn ha hk
 apply rS (eb,0);simp -zeta only[aw,ax];intro m1 m2;obtain⟨x2,hl⟩:=cv (m1:=m1) (m2:=m2) rfl rfl;have s1:m1.size=m.size+1:=by simp[m1]
 have s2:m2.size=m.size+2:=by simp[m2,s1]
 clear_value m2;have arU:=E0.em.box.lt;have hy0:=E0.em.gr.aN;have Ua:=bu.jD x;have jK:=ha.len;have jk:=hk.len;have hkb:=nW x.aW;have oD:=oA.db.jm ab;have aBJ:=E0.cons.len;have hmb:=E0.x.size;have bO:∀{M:ah}{s':Sl},Fz [eb,s.ao] m M->(s'.ao=s.ao\/m.size<=s'.ao)->Le (aY [s.ao,eb] m) (aY [s'.ao,eb] M):=RQ;have st:∀{S':List Nat}{M:ah}{s':Sl}{l':List Instr},DC S' mb M eb s' l'->Fz [eb,s.ao] m M->(s'.ao=s.ao\/m.size<=s'.ao)->(∀c∈S',c<M.size)->UU S' mb M eb s' l' cons first cl fl:=λo f hb hS=>⟨o,E0.em.dX E0.x f,hS,E0.cons.le (bO f hb),E0.first.le (bO f hb),E0.same,E0.fY⟩
 have LL:∀{M:ah}{s':Sl},m2.size<=M.size->(s'.ao=s.ao\/m2.size<=s'.ao)->∀b∈[m1.size,m.size],b<M.size/\b≠eb/\b≠s'.ao:=λhz hb b jx=>by simp at jx;omega
 have fr:∀{M M':ah}{s':Sl},Fz [eb,s.ao] m M->(s'.ao=s.ao\/m2.size<=s'.ao)->Fz [eb,s'.ao] M M'->Fz [eb,s.ao] m M':=λf hb g=>f.pA g λy hy=>by simp at hy⊢;omega
 have dX:∀{M:ah},m.size<=M.size->∀c∈S,c<M.size:=λh c hc=>by have:=E0.dX c hc;omega
 have kid:∀{i:Nat}{b:Bk}{M:ah},x.aW[i]? =some b->af mb M->∃t,cU mb t b.ar/\ad M k.ao (k.off+i*2)=some (Sl.v t)/\ad M k.ao (k.off+i*2+1)=some (vi b.aH):=λhb X=>let⟨t,h1,h2,h3⟩:=hk.aE hb;⟨t,h1,X.ad h2,X.ad h3⟩;refine⟨λh7=>?_,λh7=>?_⟩
 ·simp only[aFZ]at h7;have h2k:=oA.db.IC h7;obtain⟨b0,zy⟩:=ae (l:=x.aW) (k:=0) ab;obtain⟨b1,Ji⟩:=ae (l:=x.aW) (k:=1) ab;have NF:bw x.aW=b0.w+b1.w:=by
   obtain⟨u,v,e⟩:∃u v,x.aW=[u,v]:=by
    match x.aW,h2k with
    |[u,v],_=>exact⟨u,v,rfl⟩
   rw[e]at zy Ji⊢;simp at zy Ji;subst zy Ji;simp[bw]
  have w0:=b0.Ep;have w1:=b1.Ep;have hbn:∀i,zT ds x.op x.bh i=0:=λi=>Ka ab;have E2:=E0.ext x2;refine(ba (s.ao::eb::S) (ha.ext E2.x) ab).mono λv m3⟨a',la,e,ga,ea,x3⟩=>⟨x3.cg hl,a',e,?_⟩;subst ea;have z3:=x3.size;have hSe:∀c∈s.ao::eb::S,c<m2.size:=bd (bd (dX (M:=m2) ab) ab ab) (aFR _) ab;refine(om (x:=⟨20,0,0,0,x.args,[]⟩) (E2.em.ext x3) (E2.x.trans x3).size (GI.done ga hSe (by show x.args.length<=_;omega)) (rp _) ab).mono λv m4⟨ev,s4,l4,em4,p4,f4,b4⟩=>⟨Qa.cg f4 (LL z3 (Or.inl rfl)),_,ev,?_⟩;subst p4;have z4:=f4.size;have F4:Fz [eb,s.ao] m m4:=((x2.trans x3).fz _).trans f4;have w4:De (λ_=>False) l (l++[⟨20,0,0,0,x.args,[]⟩]) 1:=(kC.jm ⟨λh=>by simp at h,λh=>by simp at h⟩ ⟨by show x.args.length<=_;omega,az⟩).w;obtain⟨t0,ZD,g0,g1⟩:=kid zy (E0.em.dX E0.x F4);refine⟨aO,ab,_,g0,_,g1,?_⟩;have al2:=oA.aW 0 b0 zy;rw[hbn]at al2;have aBM:=w4.len;refine(ih b0 (ak zy) S mb m4 eb s4 _ cons first cl fl d r t0 (st em4 F4 ab (dX ab)) (by simpa using al2) ab ab hn ZD).mono λv m5⟨s5,l5,em5,p5,f5,b5⟩=>⟨Qa.cg f5 (LL ab ab),?_⟩;have F5:=fr F4 ab f5;have z5:=f5.size;have w5:=w4.then p5;have X5:=E0.em.dX E0.x F5;obtain⟨_,-,-,g5⟩:=kid zy X5;refine⟨aO,ab,_,g5,?_⟩;have aBN:=w5.len;refine Hc em5 X5 (dX ab) ab (LL ab ab) λs6 l6 m6 em6 e6 f6 b6=>?_;have F6:=fr F5 ab f6;have z6:=f6.size;have w6:De (λ_=>False) l l6 (1+6*(b0.w -1)+1):=e6▸w5.then R9;have aBO:=w6.len;have l56:l6.length=l5.length+1:=by rw[e6];simp
  have X6:=E0.em.dX E0.x F6;refine Xf em6 X6 ab (LL ab ab) λs7 l7 m7 em7 e7 f7 b7=>?_;have F7:=fr F6 ab f7;have z7:=f7.size;have w7:De (λq=>q=l6.length) l l7 (1+6*(b0.w -1)+1+1):=e7▸(w6.imp (λ_ h=>h.elim) (aFR _)).Mu rfl;have l67:l7.length=l6.length+1:=by rw[e7];simp
  obtain⟨x8,xg⟩:=ae (l:=l7) (k:=l.length) ab;refine Xg em7 (E0.em.dX E0.x F7) xg (LL ab ab) λs8 l8 m8 em8 e8 f8 b8=>?_;have w8:De (λq=>q=l6.length) l l8 (1+6*(b0.w -1)+1+1):=e8▸(w7.aim (aFR _) xg).imp (λ_ h=>h.1) (aFR _);have l78:l8.length=l7.length:=by rw[e8];simp
  have F8:=fr F7 ab f8;have z8:=f8.size;obtain⟨t1,Vv,k0,k1⟩:=kid Ji (E0.em.dX E0.x F8);refine⟨aO,ab,_,k0,_,k1,?_⟩;have al3:=oA.aW 1 b1 Ji;rw[hbn]at al3;have aBQ:=w8.len;refine(ih b1 (ak Ji) S mb m8 eb s8 l8 cons first cl fl d r t1 (st em8 F8 ab (dX ab)) (by simpa using al3) ab ab hn Vv).mono λv m9⟨s9,l9,em9,p9,f9,b9⟩=>⟨Qa.cg f9 (LL ab ab),?_⟩;have F9:=fr F8 ab f9;have z9:=f9.size;have w9:=w8.then p9;have X9:=E0.em.dX E0.x F9;obtain⟨_,-,-,g9⟩:=kid Ji X9;refine⟨aO,ab,_,g9,?_⟩;have ash:=w9.len;have l89:l8.length<=l9.length:=by obtain⟨nw,e,-⟩:=p9;rw[e];simp
  refine Hc em9 X9 (dX ab) ab (LL ab ab) λV6 NM cK agV tE f10 NO=>?_;have Vs:De (λq=>q=l6.length) l NM (1+6*(b0.w -1)+1+1+6*(b1.w -1)+1):=tE▸w9.then R9;have F10:=fr F9 ab f10;have wh:=f10.size;have asi:NM.length=l9.length+1:=by rw[tE];simp
  obtain⟨eB,MM⟩:=ae (l:=NM) (k:=l6.length) ab;refine Xg agV (E0.em.dX E0.x F10) MM (LL ab ab) λDE Ut dm asj O1 f11 wi=>?_;exact⟨DE,Ut,asj,O1▸(Vs.aim ab MM).ajE (λq h=>h.2 h.1) ab,fr F10 ab f11,ab⟩
 ·simp only[aFU]at h7;have h8:x.op=8:=ab;obtain⟨hka,hk0⟩:=oA.db.all h8;obtain⟨y,Uf⟩:=ae (l:=x.args) (k:=0) ab;obtain⟨y0,y1⟩:=oA.db.args y (ak Uf);obtain⟨yn,rfl⟩:∃n:Nat,y=n:=⟨y.toNat,ab⟩;have E2:=E0.ext x2;refine⟨aO,ab,yn,(ha.ext E2.x).aE Uf,?_⟩;have QQ:∀c∈[s.ao,eb],c<m2.size:=λc hc=>by simp at hc;omega
  refine(eL (S:=[s.ao,eb]) QQ (hn.aI.le E2.x.le) hn.types x.bh).mono λv m3⟨cs,cl3,ec,hc,qc,x3⟩=>⟨x3.cg hl,cs,ec,?_⟩;subst qc;have aBS:=hc.len;have z3:=x3.size;intro m4;refine Hc (E2.em.ext x3) (E2.x.trans x3) (dX ab) ab (LL z3 (Or.inl rfl)) λs5 l5 m5 em5 e5 f5 b5=>?_;have z5:=f5.size;have w5:De (λ_=>False) l l5 1:=e5▸(kC.jm ⟨λh=>by simp at h,λh=>by simp at h⟩ ⟨az,az⟩).w;have l5l:l5.length=l.length+1:=by rw[e5];simp
  intro m6 m7;have x6:af m5 m6:=af.push _ _;have x7:af m6 m7:=af.push _ _;have s6:m6.size=m5.size+1:=by simp[m6]
  have s7:m7.size=m6.size+1:=by simp[m7]
  have gt7:GI [] m5 m7 (.mk m5.size 0 0 0) []:=(GI.nil [] m5).ext x7;have ge7:GI [] m5 m7 (.mk m6.size 0 0 0) []:=GI.bN (GI.nil [] m6) (λ_ h=>h) x6.size;clear_value m7 m6;have X67:=x6.trans x7;have Q2:∀{M M':ah}{s':Sl},Fz [eb,s.ao] m3 M->(s'.ao=s.ao\/m3.size<=s'.ao)->Fz [eb,s'.ao] M M'->Fz [eb,s.ao] m3 M':=λf hb g=>f.pA g λy hy=>by simp at hy⊢;omega
  have F0:Fz [eb,s.ao] m m3:=(x2.trans x3).fz _;have al4:∀{M:ah}{s':Sl}{i:Nat}{c:Int},Fz [eb,s.ao] m3 M->(s'.ao=s.ao\/m3.size<=s'.ao)->(bB ds x.bh)[i]? =some c->ad M cs.ao (cs.off+i*1)=some (vi c):=λ{M s' i c} f hb h=>(cT.1 ((hc.le (mW (S':=[s'.ao,eb]) (m':=M) λb jx hn=>by
   simp at hn;exact⟨by simp;rcases hb with e|e<;>omega,f.same b jx bg⟩)).aE h)).2
  have al5:∀{M:ah},m5.size<=M.size->Fz (List.range m5.size) m5 M:=λh=>⟨h,λb hb hn=>absurd (List.mem_range.2 hb) hn⟩;have Il:∀{M M':ah}{u:Sl}{ul:List Int}{Y:List Nat},GI [] m5 M u ul->Fz Y M M'->u.ao∉Y->GI [] m5 M' u ul:=λ{M M' u ul Y} g f h=>GI.any ((GI.any (S':=Y) g).Nb rP.mono f (λ_ h=>h) h);have o7:DC (m5.size::m6.size::S) mb m7 eb s5 l5:=em5.re (X67.fz []) az λb hb=>by
   simp only[aF0]at hb;rcases hb with e|e|e
   ·exact Or.inr ab
   ·exact Or.inr ab
   ·exact Or.inl e
  refine vw (n:=(bB ds x.bh).length) ab (λk t en M=>∃s' l' tl el,DC (t.ao::en.ao::S) mb M eb s' l'/\De (λq=>(q:Int)∈el) l l' (1+6*bw (x.aW.take k))/\GI [] m5 M t tl/\tl.length=k/\GI [] m5 M en el/\el.length<=k/\(∀y∈el,∃q:Nat,y=q/\l.length<q/\q<l'.length)/\t.ao≠en.ao/\Fz [eb,s.ao] m3 M/\(s'.ao=s.ao\/m3.size<=s'.ao)/\m7.size<=M.size/\l.length<l'.length)
   ⟨s5,l5,[],[],o7,w5.imp (λ_ h=>h.elim) az,gt7,rfl,ge7,aFR _,az,by show m5.size≠m6.size;omega,f5.then X67,ab,aFR _,ab⟩ ?_
  rintro j t en M I μ hj ⟨s',l',tl,el,o,w,gt,MK,ge,Q0,agW,cx,f,hb,zM,aBV⟩ next
  have F:=F0.trans f;have XM:=E0.em.dX E0.x F;have ty:=gt.aN;have ey:=ge.aN;have t1:t.ao≠eb:=gt.ne o.box aO;have t2:t.ao≠s'.ao:=gt.JZ o.gr aO;have n1:en.ao≠eb:=ge.ne o.box aO;have n2:en.ao≠s'.ao:=ge.JZ o.gr aO;have kQ:=o.gr.len aO;have uB:=w.len;have NF:=J3 x.aW j;have oy:=o.gr.aN;have obl:=o.box.lt;refine⟨λh=>?_,λh=>?_⟩
  ·simp only[aFP]at h;obtain⟨c,hcj⟩:=ae (l:=bB ds x.bh) (k:=j) ab;obtain⟨b,hbj⟩:=ae (l:=x.aW) (k:=j) ab;have nH:=sJ hbj;have aBW:=J3 x.aW (j+1);have hbp:=b.Ep;have al6:zT ds x.op x.bh j=(bz ds c).length:=J9 h8 hcj;have uD:=RD hn.types x.op x.bh j;refine⟨s',o.box.bH 0,?_⟩;intro m8;refine GI.iN gt (al5 ab) az ab λt' M1 gt' f1' z1 q1=>?_;have fa:Fz [t.ao] M M1:=⟨z1.1,λb hb hn=>q1 b hb (by simpa using hn)⟩;refine⟨λb hb=>by
    simp at hb;rw[q1 b ab ab,(af.push M _).same b ab],?_⟩
   have f1:Fz [eb,s.ao] m3 M1:=f.pA fa λy hy=>by simp at hy⊢;omega
   have ge1:=Il ge fa bg;have o1:DC (t'.ao::en.ao::S) mb M1 eb s' l':=o.re fa (by simp;exact⟨t1,t2⟩) λb hb=>by
    rcases List.mem_cons.1 hb with e|e
    ·rcases z1.2 with e'|e'
     ·exact Or.inl (by rw[e,e'];simp)
     ·exact Or.inr ab
    ·exact Or.inl (aFT _ e)
   have ty':=gt'.aN;refine⟨ab,ab,c,al4 f1 hb hcj,?_⟩;have X1:=E0.em.dX E0.x (F0.trans f1);refine(cw (S:=[]) az (hn.aI.le (X1.le.trans (yS _))) hn.types c).mono λv M2⟨ff,fl2,ef,hf,qf,Vm⟩=>⟨Vm.cg λb hb=>by simp at hb;omega,ff,ef,?_⟩;subst qf;have gL:=hf.len;have z2:=Vm.size;have f2:=f1.then Vm;refine dg (n:=(bz ds c).length) ab (λi M'=>∃s'' VE,DC (t'.ao::en.ao::S) mb M' eb s'' VE/\De (λq=>(q:Int)∈el) l VE (1+6*bw (x.aW.take j)+i)/\Fz [eb,s'.ao] M2 M'/\(s''.ao=s'.ao\/M2.size<=s''.ao)/\l'.length<=VE.length) ⟨s',l',o1.ext Vm,w,Fz.av _ _,Or.inl rfl,aFR _⟩ ?_;rintro i M3 I3 μ3 hi ⟨Zk,l3,o3,w3,f3,b3,l33⟩ al7;have z3':=f3.size;have F3:=Q2 f2 hb f3;have abq:Zk.ao=s.ao\/m3.size<=Zk.ao:=ab;have aBZ:=w3.len;have X3:=E0.em.dX E0.x (F0.trans F3);have LM:∀{M':ah}{u:Sl},M3.size<=M'.size->(u.ao=s.ao\/m3.size<=u.ao)->∀b∈[m1.size,m.size],b<M'.size/\b≠eb/\b≠u.ao:=λhz hb=>LL ab ab;have abr:∀{M':ah},M3.size<=M'.size->∀c∈t'.ao::en.ao::S,c<M'.size:=λh=>bd (bd (dX (M:=M3) ab) (aFR _) ab) h ab;refine⟨λiy=>?_,λiy=>?_⟩
   ·simp only[aFP]at iy;intro m9;refine Hc o3 X3 (abr (aFR _)) ab (LM (aFR _) abq) λs4 l4 M4 o4 e4 f4 b4=>al7 ab _ ⟨s4,l4,o4,?_,f3.pA f4 λy hy=>by simp at hy⊢;omega,ab,by rw[e4];simp;omega⟩;rw[e4];exact w3.then (kC.jm ⟨λh=>by simp at h,λh=>by simp at h⟩ ⟨az,az⟩)
   simp only[aFQ]at iy;have hii:i=(bz ds c).length:=ab;subst hii;have y3:=o3.gr.aN;have bl3:=o3.box.lt;have FD:∀{M':ah},M3.size<=M'.size->∀c∈[Zk.ao,eb],c<M'.size:=λh c hc=>by simp at hc;omega
   rw[gL];refine(jt (S:=[Zk.ao,eb]) (FD (aFR _)) 0 (bz ds c).length ab).mono λv M4⟨s4,l4,e4,g4,q4,x4⟩=>⟨x4.cg λb hb=>by simp at hb;omega,s4,e4,?_⟩;have z4:=x4.size;have h4:=GI.done g4 (FD (aFR _)) ab;obtain⟨tk,htk,k0,k1⟩:=kid hbj (X3.trans x4);have F4:=F3.then x4;have hE:∀{u v:ah},af M4 u->af u v->∀o,ad v m1.size o=ad u m1.size o/\ad v m.size o=ad u m.size o:=λa b o=>⟨gl b (by have:=a.size;omega) o,gl b (by have:=a.size;omega) o⟩;refine⟨ab,ab,tk,k0,_,k1,ab,ab,c,al4 F4 abq hcj,?_⟩;have S4:=st o3 (F0.trans F3) ab (abr (aFR _));have c4l:=S4.cons.len;have f4l:=S4.first.len;have same:=S4.same;refine(sH (S:=[Zk.ao,eb]) (FD z4) (S4.cons.le (x4.bO _)) ab (at0:=yn) ab c).mono λv M5⟨s5,l5',e5,g5,q5,x5⟩=>⟨x5.cg λb hb=>by simp at hb;omega,s5,e5,gx x5 k0,gx x5 k1,(hE (af.av _) x5 _).1,(hE (af.av _) x5 _).2,(hE (af.av _) x5 _).2,?_⟩;have z5:=x5.size;have h5:=GI.done g5 (FD z4) (by rw[<-q5];simp;omega);refine(cS (S:=[Zk.ao,eb]) (FD ab) h5 (h4.le (x5.bO _)) (by rw[<-q5];simp;omega)).mono λv M6⟨s6',l6,e6,g6,q6,x6'⟩=>⟨x6'.cg λb hb=>by simp at hb;omega,s6',e6,gx x6' (x5.ad k0),gx x6' (x5.ad k1),(hE x5 x6' _).1,(hE x5 x6' _).2,(hE x5 x6' _).2,?_⟩;have z6:=x6'.size;have X46:=x5.trans x6';have h6:=GI.done g6 (FD ab) (by rw[<-q6,<-q5];simp;omega);refine(sH (S:=[Zk.ao,eb]) (FD ab) (S4.first.le ((x4.trans X46).bO _)) ab (at0:=yn) ab cons.len).mono λv M7⟨s7',l7,e7,g7,q7,x7'⟩=>⟨x7'.cg λb hb=>by simp at hb;omega,s7',e7,gx x7' (X46.ad k0),gx x7' (X46.ad k1),(hE X46 x7' _).1,(hE X46 x7' _).2,(hE X46 x7' _).2,?_⟩;have z7:=x7'.size;have X47:=X46.trans x7';have h7':=GI.done g7 (FD ab) (by rw[<-q7];simp;omega);refine(cS (S:=[Zk.ao,eb]) (FD ab) h7' (h4.le (X47.bO _)) (by rw[<-q7];simp;omega)).mono λv M8⟨s8,l8,e8,g8,q8,x8⟩=>⟨x8.cg λb hb=>by simp at hb;omega,s8,e8,gx x8 (X47.ad k0),gx x8 (X47.ad k1),(hE X47 x8 _).1,(hE X47 x8 _).2,(hE X47 x8 _).2,?_⟩;have z8:=x8.size;have h8':=GI.done g8 (FD ab) (by rw[<-q8,<-q7];simp;omega);have X38:=(x4.trans X47).trans x8;have Lp:l6.length=cl.length+zT ds x.op x.bh j:=by rw[<-q6,<-q5,al6];simp;omega
   have mG:l8.length=l6.length:=by rw[<-q8,<-q7,Lp,al6];simp;omega
   have ES:UU (t'.ao::en.ao::S) mb M8 eb Zk l3 s6' s8 l6 l8:=⟨o3.ext X38,X3.trans X38,abr X38.size,h6.le ((x7'.trans x8).bO _),h8',mG,λy hy=>by
    rw[<-q8]at hy;rcases List.mem_append.1 hy with hy|hy
    ·rw[<-q7]at hy;rcases aGd hy with hy|hy
     ·exact E0.fY y hy
     ·omega
    ·have:=q4.1 y hy;omega⟩
   have lP:WB ds rs.length True l6.length b:=by rw[Lp];exact oA.aW j b hbj
   refine(ih b (ak hbj) _ mb M8 eb Zk l3 s6' s8 l6 l8 d r tk ES lP ab ab hn htk).mono λv M9⟨s9,l9,o9,p9,f9,b9⟩=>⟨Qa.cg f9 (LM (by have:=X38.size;omega) abq),?_⟩;have z9:=f9.size;have z38:=X38.size;have F9:=Q2 (F3.then X38) abq f9;have X9:=E0.em.dX E0.x (F0.trans F9);have w9:=w3.then p9;have ash:=w9.len;have l39:l3.length<=l9.length:=by obtain⟨nw,e,-⟩:=p9;rw[e];simp
   obtain⟨_,-,-,g9⟩:=kid hbj X9;refine⟨ab,ab,_,g9,?_⟩;refine Hc o9 X9 (abr ab) ab (LM ab ab) λV6 NM M10 o10 tE f10 NO=>?_;have wh:=f10.size;have F10:=Q2 F9 ab f10;have Vs:De (λq=>(q:Int)∈el) l NM (1+6*bw (x.aW.take j)+(bz ds c).length+6*(b.w -1)+1):=tE▸w9.then R9;have asi:NM.length=l9.length+1:=by rw[tE];simp
   have awt:=Vs.len;have kI:∀{u:Sl}{ul:List Int},GI [] m5 M1 u ul->u.ao≠eb->u.ao≠s'.ao->u.ao<M1.size->GI [] m5 M10 u ul:=λ{u ul} g a1 a2 a3=>by
    have g2:=g.ext Vm;have g3:=Il g2 f3 (by simp;exact⟨a1,a2⟩);have g8':=g3.ext X38;have g9':=Il g8' f9 (by simp;exact⟨a1,by rcases b3 with e|e<;>omega⟩);exact Il g9' f10 (by simp;exact⟨a1,by rcases b9 with e|e<;>omega⟩)
   have t1':t'.ao≠eb:=gt'.ne o1.box aO;have t2':t'.ao≠s'.ao:=gt'.JZ o1.gr aO;have al8:=kI gt' t1' t2' ty'.2;have al9:=kI ge1 n1 n2 ab;rw[aF (x:=(cs.len:Int) -1) ab ab];refine⟨λcA=>?_,λcA=>next ab _ _ _ ⟨V6,NM,tl++[(s'.len:Int)],el,o10,Vs.imp (λ_ h=>h) ab,al8,bg,al9,ab,λy hy=>by obtain⟨q,e,h1,h2⟩:=agW y hy;exact⟨q,e,h1,ab⟩,ab,F10,ab,ab,ab⟩⟩;have aB3:=o10.gr.aN;refine Xf o10 (E0.em.dX E0.x (F0.trans F10)) ab (LM ab ab) λDE Ut M11 o11 O1 f11 wi=>?_;have xw:=f11.size;have F11:=Q2 F10 ab f11;have w11:De (λq=>(q:Int)∈el++[(NM.length:Int)]) l Ut (1+6*bw (x.aW.take j)+(bz ds c).length+6*(b.w -1)+1+1):=O1▸(Vs.imp (λq h=>List.mem_append.2 (Or.inl h)) (aFR _)).Mu az;have aww:Ut.length=NM.length+1:=by rw[O1];simp
   have nx:∀{u:Sl}{ul:List Int},GI [] m5 M10 u ul->u.ao≠eb->GI [] m5 M11 u ul:=λg a=>Il g f11 (by simp;exact⟨a,g.JZ o10.gr aO⟩);have asp:=nx al8 t1';have ama:=nx al9 n1;intro df;refine GI.iN ama (al5 ab) az ab λen' M12 ge' aB6 MH VR=>?_;have fb:Fz [en.ao] M11 M12:=⟨MH.1,λb hb hn=>VR b hb (by simpa using hn)⟩;have asq:en.ao≠DE.ao:=ama.JZ o11.gr aO;refine⟨λb hb=>by
    simp at hb;rw[VR b ab ab,(af.push M11 _).same b ab],next ab _ _ _ ⟨DE,Ut,tl++[(s'.len:Int)],el++[(NM.length:Int)],?_,w11.imp (λ_ h=>h) ab,Il asp fb bg,bg,ge',bg,λy hy=>?_,ab,F11.pA fb λy hy=>by simp at hy⊢;omega,ab,ab,ab⟩⟩
   ·exact o11.re fb (by simp;exact⟨n1,asq⟩) λb hb=>by
     simp only[aF0]at hb⊢;rcases hb with e|e|e
     ·exact Or.inl (Or.inl e)
     ·rcases MH.2 with e'|e'
      ·exact Or.inl (Or.inr (Or.inl ab))
      ·exact Or.inr ab
     ·exact Or.inl (Or.inr (Or.inr e))
   ·rcases List.mem_append.1 hy with hy|hy
    ·obtain⟨q,e,h1,h2⟩:=agW y hy;exact⟨q,e,h1,ab⟩
    ·simp at hy;exact⟨NM.length,hy,ab,ab⟩
  ·simp only[aFQ]at h;have hjj:j=(bB ds x.bh).length:=ab;subst hjj;refine⟨s',o.box.bH 0,?_⟩;intro m8;have x8:af M m8:=af.push _ _;have asr:aj (aY (s'.ao::eb::S) m8) (.mk M.size 0 1 1) [(yn:Int)]:=aj.lit au _ (bd (bd (dX (M:=M) ab) (aFR _) ab) (aFR _) ab) rfl rfl az;have s8:m8.size=M.size+1:=by simp[m8]
   clear_value m8;refine⟨gl x8 ab _,gl x8 ab _,ab,ab,?_⟩;have oS:DC S mb m8 eb s' l':=(o.ext x8).re (Fz.av [] _) az λb hb=>Or.inl (aFT _ (aFT _ hb));have nSt:t.ao∉s'.ao::eb::S:=by
    simp only[aF0,aHO];exact⟨t2,t1,λh=>by have:=dX (M:=m) (aFR _) _ h;omega⟩
   have ht8:aj (aY (s'.ao::eb::S) m8) t tl:=(GI.any (S':=s'.ao::eb::S) (gt.ext x8)).lB rP.mono nSt aO ab;obtain⟨wr,gs,-,qs⟩:=oS.gr.set cD.mono (X:=List.range mb.size) ⟨ab,λb hb hn=>absurd (List.mem_range.2 hb) hn⟩ (k:=l.length) ab (a:=⟨21,0,x.bh,0,[(yn:Int)],tl⟩) (cs:=[.i 21,.i 0,.i x.bh,.i 0,.s (.mk M.size 0 1 1),.s t]) ⟨_,_,rfl,asr,ht8⟩;refine⟨wr,?_⟩;intro m9;have s9:m9.size=m8.size:=aq _ _ _ _;have o9:DC S mb m9 eb s' (l'.set l.length ⟨21,0,x.bh,0,[(yn:Int)],tl⟩):=⟨oS.box.congr (qs eb (aHh oS.ne)),gs,oS.up⟩;have f9:Fz [eb,s'.ao] M m9:=⟨ab,λb hb hn=>by
    simp at hn;have e1:m9[b]? =m8[b]? :=qs b hn.2;rw[e1,x8.same b hb]⟩
   have w9:=(w.set (x:=⟨21,0,x.bh,0,[(yn:Int)],tl⟩) (k:=l.length) (aFR _) ⟨λh=>by simp at h,λh=>by simp at h⟩ ⟨az,by show tl.length<=_;omega⟩).imp (P':=λq=>(q:Int)∈el) (λ_ h=>h.1) (aFR _);refine⟨λb hb=>qs b (by simp at hb;omega),?_⟩;have hen:=ge.len aO;refine dg (n:=el.length) ab (λi M'=>∃s'' VE,DC S mb M' eb s'' VE/\De (λq=>(q:Int)∈el.drop i) l VE (1+6*bw (x.aW.take (bB ds x.bh).length))/\VE.length=l'.length/\GI [] m5 M' en el/\Fz [eb,s.ao] m3 M'/\(s''.ao=s.ao\/m3.size<=s''.ao)/\m7.size<=M'.size) ⟨s',_,o9,by simpa using w9,az,Il ge f9 (by simp;exact⟨n1,n2⟩),Q2 f hb f9,hb,ab⟩ ?_;rintro i M' I2 μ2 hi ⟨s2',l2,o2,w2,oC,ge2,f2,b2,z2⟩ eN;refine⟨λh=>?_,λh=>?_⟩
   ·simp only[aFP]at h;obtain⟨y,hyi⟩:=ae (l:=el) (k:=i) ab;obtain⟨q,rfl,VX,YZ⟩:=agW y (ak hyi);have ast:aj (aY [] M') en el:=(GI.any (S':=[]) ge2).lB rP.mono az aO ab;have hei:=ast.le (aV _ _);obtain⟨xq,hxq⟩:=ae (l:=l2) (k:=q) ab;refine⟨ab,ab,q,hei.aE hyi,?_⟩;refine Xg o2 (E0.em.dX E0.x (F0.trans f2)) hxq (LL ab ab) λs4 l4 M4 o4 e4 f4 b4=>eN ab _ ⟨s4,l4,o4,?_,by rw[e4];simp;exact oC,Il ge2 f4 (by simp;exact⟨n1,ge2.JZ o2.gr aO⟩),Q2 f2 b2 f4,by have:=f2.size;omega,by have:=f4.size;omega⟩;rw[e4];refine(w2.aim ab hxq).imp (λq' h=>?_) (aFR _);obtain⟨h1,h2⟩:=h;rw[aHc ab]at h1;rcases List.mem_cons.1 h1 with e|e
    ·have:el[i]=(q:Int):=by have:=List.getElem?_eq_some_iff.1 hyi;exact this.2
     rw[this]at e;exact absurd ab h2
    ·exact e
   ·simp only[aFQ]at h;have hii:i=el.length:=ab;subst hii;rw[List.drop_length]at w2;exact⟨s2',l2,o2,w2.ajE az ab,F0.trans f2,ab⟩
theorem KL{ds:List aS}{rs:List di}:∀b:Bk,afi ds rs b:=Bk.ind λar r ih=>Kz λx hx h=>KK h λb hb=>ih x hx b hb
theorem kC.bP{l:List Instr}{n:Nat}(h:kC [] l n):UT l/\RN l/\l.length<=n:=by
 obtain⟨nw,rfl,b,c,d⟩:=h;exact⟨λk x hx=>by have:=b k x hx;simpa using this,c,d⟩
theorem KM{S:List Nat}{m:ah}(hS:∀c∈S,c<m.size){d r:Sl}{ds:List aS}{rs:List di}(hn:cR m d r ds rs){W:Nat}(lx:xc ds rs True W)(hW:W<=120000000000):RO 61 [.agg #[Sl.v d,Sl.v r]] m S ds Dc:=by
 apply Ch;simp -zeta only[aw,ax];have ht:=hn.types;have hp:=hn.fj;intro a1 a2;obtain⟨x2,hl⟩:=cv (m1:=a1) (m2:=a2) rfl rfl;have s1:a1.size=m.size+1:=by simp[a1]
 clear_value a2;have tA:=hp.len;have Pe:=hn.lZ;have hp0:=lx.eZ;refine(dI (S:=a1.size::S) (bd hS x2.size (hl _ az)) (hn.aI.le x2.le) ht).mono λ_ m2⟨dd,e,Hy,x3⟩=>?_;subst e;refine⟨x3.cg hl,_,rfl,?_⟩;intro m3 m4 m5;have u2:=x2.trans x3;obtain⟨x5,B0,g0,s3,s5⟩:=iR (S:=m3.size::a1.size::S) jc.mono (m2:=m2) (m3:=m3) (m4:=m4) (m5:=m5) rfl rfl rfl;clear_value m5;have oC:∀c∈[a1.size,m.size],c<m2.size:=λc hc=>x3.lt (hl c hc);have kX:∀c∈a1.size::S,c<m2.size:=λc hc=>x3.lt (bd hS x2.size (hl _ az) c hc);refine iI (R:=λv0 v1 M=>∃d p ps',Value.agg #[Sl.v v0,Sl.v v1]=.agg #[Sl.v d,Sl.v p]/\br (aY S M) d ds/\eV (aY S M) p ps'/\Dc ps'/\af m M) (n:=rs.length) (m:=m) (S:=S) jc.mono aO aO hS ⟨ab,oC _ az⟩ u2 s3 Hy tA ab x5 B0 g0 (λ_ q=>W3 q) (λd' r' l m' h1 h2 h3 h4 h5=>⟨d',r',l,rfl,h1,h2,⟨ab,ab,λq hq=>by obtain⟨i,hi⟩:=List.mem_iff_getElem?.1 hq;exact h4 i q hi⟩,h5⟩) λk M st l I μ Bj hlen xM g B next=>?_
 obtain⟨q,hq⟩:=ae (l:=rs) (k:=k) Bj;obtain⟨q3,q3',qwb,qw⟩:=lx.cq q (ak hq);have v6:=u2.trans xM;obtain⟨cs,⟨a,b,t,rfl,c1,c2,c3⟩,hr⟩:=hp.iu k q hq;have c1l:=c1.len;have qp:=q.body.Ep;refine⟨ab,ab,_,v6.ad (hr 0 _ rfl),_,v6.ad (hr 1 _ rfl),_,v6.ad (hr 2 _ rfl),_,v6.ad (hr 3 _ rfl),_,v6.ad (hr 4 _ rfl),?_⟩;intro m7 m8;have hy:=g.aN;have MJ:=B.lt;have zM:=xM.size;obtain⟨x8,-,s8⟩:=iA (M:=M) (m1:=m7) (m2:=m8) rfl rfl rfl;clear_value m8;have hm2:=u2.size;have w8:=v6.trans x8;have OZ:∀{M':ah},m8.size<=M'.size->∀c∈st.ao::m3.size::a1.size::S,c<M'.size:=λh c hc=>by
  simp only[aF0]at hc;rcases hc with e|e|e|e
  ·omega
  ·omega
  ·have:=kX c (by simp[e]);omega
  ·have:=kX c (by simp[e]);omega
 have hla:a1.size<m2.size:=oC _ az;intro m9 cK;have x9:af m8 m9:=af.push _ _;have s9:m9.size=m8.size+1:=by simp[m9]
 have cO:af m9 cK:=af.push _ _;have V6:cK.size=m9.size+1:=by simp[cK]
 have g9:GIn (m9.size::st.ao::m3.size::a1.size::S) m8 m9 (.mk m8.size 0 0 0) []:=Gr.new _ (aFR _) _ _ _;have V8:bK cK m9.size lI [.s (.mk m8.size 0 0 0)]:=bK.push _ _ _;have agV:DC (st.ao::m3.size::a1.size::S) m8 cK m9.size (.mk m8.size 0 0 0) []:=⟨V8,g9.ext cD.mono cO,ab⟩;clear_value cK m9;have X10:=x9.trans cO;have QQ:∀c∈[m8.size,m9.size],c<cK.size:=λc hc=>by simp at hc;omega
 have LL:∀{M':ah}{s':Sl},cK.size<=M'.size->(s'.ao=m8.size\/cK.size<=s'.ao)->∀b∈[M.size,a1.size,m.size],b<M'.size/\b≠m9.size/\b≠s'.ao:=λhz hb b jx=>by simp at jx;omega
 rw[c1l];refine(jt (S:=[m8.size,m9.size]) QQ 0 q.params.length ab).mono λ_ dm⟨DE,Ut,e,g11,q11,eB⟩=>⟨eB.cg λb hb=>by simp at hb;omega,DE,e,?_⟩;have jV:=GI.done g11 QQ ab;have xw:=eB.size;have E11:UU (st.ao::m3.size::a1.size::S) m8 dm m9.size (.mk m8.size 0 0 0) [] DE DE Ut Ut:=⟨agV.ext eB,X10.trans eB,OZ ab,jV,jV,rfl,λy hy=>by have:=q11.1 y hy;omega⟩;refine(KL q.body _ m8 dm m9.size _ [] DE DE Ut Ut d r t E11 (by rw[q11.2];exact qwb) ab bg (hn.le w8.le) (cU.le w8.le c3)).mono λv df⟨NJ,l12,ag1,p12,f12,Pp⟩=>⟨Qa.cg f12 (LL xw (Or.inl rfl)),?_⟩;have MH:=f12.size;simp only[Sl.gN]at Pp f12;have NH:af m8 df:=Fz.ext ((((X10.trans eB).fz [m9.size,m8.size]).trans f12).By λb hb=>Or.inr (by simp at hb;omega));have asu:=p12.len;intro iC;refine Hc ag1 NH (OZ ab) (by simp at asu;omega) (LL ab ab) λV9 l14 gK Zl Q9 f14 b14=>?_;have Sx:=f14.size;have y12:=ag1.gr.aN;have Uc:af m8 gK:=ag1.dX NH f14;have p14:kC [] l14 (6*q.body.w):=Q9▸(p12.trans (kC.jm (x:=⟨23,0,0,0,[q.body.aH],[]⟩) ⟨λh=>by simp at h,λ_=>az⟩ az)).eE ab;obtain⟨ok1,ok2,ok3⟩:=p14.bP;have asv:0<l14.length:=by rw[Q9];simp
 have B14:=B.ext (x8.trans Uc);refine⟨st,B14.bH 1,V9,Zl.box.bH 0,V9,Zl.box.bH 0,?_⟩;have y14:=Zl.gr.aN;have asw:=Zl.ne;have n14:V9.ao∉m9.size::st.ao::m3.size::a1.size::S:=by
  simp only[aF0,aHO];have hc:=λh:V9.ao∈st.ao::m3.size::a1.size::S=>OZ (M':=m8) (aFR _) _ h;refine⟨asw,λh=>?_,λh=>?_,λh=>?_,λh=>?_⟩<;>have:=hc (by simp[h])<;>omega
 have amb:dq (aY (m9.size::st.ao::m3.size::a1.size::S) gK) V9 l14:=Zl.gr.lB cD.mono n14 aO ab;have G:∀{M1 M2:ah}{b o:Nat},gK.size<=M1.size->af M1 M2->b<gK.size->ad M2 b o=ad M1 b o:=λh x hb=>gl x ab _;have sm:∀{M1 M2:ah},gK.size<=M1.size->af M1 M2->da [M.size,a1.size,m.size] M1 M2:=λh x=>x.cg λb hb=>by simp at hb;omega
 have i9:m9.size<gK.size:=ab;have iM:M.size<gK.size:=ab;have i3:m3.size<gK.size:=ab;refine(ba (st.ao::m3.size::a1.size::S) (c1.ext (w8.trans Uc)) ab).mono λ_ kT⟨a',la,e,ga,ea,lp⟩=>⟨sm (aFR _) lp,a',e,G (aFR _) lp i9,G (aFR _) lp iM,G (aFR _) lp i9,G (aFR _) lp iM,G (aFR _) lp iM,G (aFR _) lp i3,?_⟩;subst ea;have MI:=lp.size;refine(ba (st.ao::m3.size::a1.size::S) (c2.ext ((w8.trans Uc).trans lp)) ab).mono λ_ pV⟨b',lb,e,gb,eb,kW⟩=>⟨sm MI kW,b',e,G MI kW i9,G MI kW iM,G MI kW i9,G MI kW iM,G MI kW i3,?_⟩;subst eb;have z16:=kW.size;have aeO:=lp.trans kW;refine(Mt (m:=pV) (dq.ext aeO (cY.le amb (aV _ _) λ_ _=>cD.le (aV _ _))) (q.params.length:Nat)).mono λ_ oB⟨rg,e,_,xl⟩=>⟨sm ab xl,rg,e,G ab xl i9,G ab xl iM,G ab xl i3,?_⟩;have z17:=xl.size;have X17:=aeO.trans xl;intro sY;have asx:dq (aY (st.ao::m3.size::a1.size::S) oB) V9 l14:=cY.le amb ((X17.bO _).trans (eY _ λ_ h=>aFT _ h)) λ_ _=>cD.le ((X17.bO _).trans (eY _ λ_ h=>aFT _ h));have XX:=(x8.trans Uc).trans X17;refine Gr.box (zs:=[.s .nil,.s .nil,.i 0,.i 0,.s .nil]) (i:=1) (bytes:=88) (bc:=[.s dd,.s st]) (a:=⟨q.params,q.bX,q.aH,rg,l14⟩) jc.mono aO (g.ext jc.mono XX) ((xM.trans XX).fz []) ⟨a',b',V9,rfl,(GI.done ga (OZ ab) ab).le ((kW.trans xl).bO _),(GI.done gb (OZ ab) ab).le (xl.bO _),asx⟩ ab (B14.ext X17) az aO ⟨ab,az⟩ (λc hc=>?_) λr' m' g' B' f' z' q'=>next r' m' _ g' B' f'.ext ⟨q3,q3',asv,by show l14.length<=_;omega,ok1,ok2⟩
 simp at hc;omega
section
def Mn{α:Type}(T:ah->Sl->Sl->α->Prop):Prop:=∀M M' a b x,Le M M'->T M a b x->T M' a b x
def PP{α:Type}(T:ah->Sl->Sl->α->Prop)(U:α->Prop)(S:List Nat)(rb:Nat)(bs:Sl)(m:ah)(P:Nat)(v:Value)(m':ah):Prop:=∃a b x,v=.agg #[Sl.v a,Sl.v b]/\T (aY S m') a b x/\U x/\Rd rb bs P m'/\Fz [rb] m m'
def NT(m:ah)(a b:Sl)(x:List aS×List di):Prop:=cR m a b x.1 x.2
def IT(m:ah)(a b:Sl)(x:List aS×List bY):Prop:=br m a x.1/\eV m b x.2
def GT(m:ah)(a b:Sl)(x:List aS×List (bY×Ex)):Prop:=br m a x.1/\afl m b x.2
def UN(c:Prop)(W:Nat)(x:List aS×List di):Prop:=xc x.1 x.2 c W/\x.1∈pL
def UI(x:List aS×List bY):Prop:=Dc x.2/\x.1∈pL
theorem NT.mn:Mn NT:=λ_ _ _ _ _ h t=>cR.le t h
theorem IT.mn:Mn IT:=λ_ _ _ _ _ h t=>⟨t.1.le h,eV.le h t.2⟩
structure BS(B:List Nat)(rb:Nat)(bs:Sl)(m:ah)(Q:Nat)(M:ah):Prop where
 s:Rs rb bs m Q M
 dX:∀c∈B,m.size<=c/\c<M.size
section
variable{α:Type}{T:ah->Sl->Sl->α->Prop}{U:α->Prop}{S B L:List Nat}{rb Q Q' P0 k f t:Nat}{bs a b:Sl}{m M M':ah}{x:α}{args:List Value}
theorem BS.hS(h:BS B rb bs m Q M)(hS:∀c∈S,c<m.size):∀c∈B++S,c<M.size:=λc hc=>(List.mem_append.1 hc).elim (λe=>(h.dX c e).2) λe=>aFY (hS c e) h.s.f.size
theorem BS.to(h:BS B rb bs m Q M)(f:Fz [rb] M M')(r:Rd rb bs Q' M'):BS B rb bs m Q' M':=⟨h.s.to f r,λc hc=>⟨(h.dX c hc).1,aFY (h.dX c hc).2 f.size⟩⟩
theorem BS.lw(h:BS B rb bs m Q M)(h0:rb<m.size)(hL:∀b∈L,b∈B):Lw rb L M:=Go.Proofs.YtakpkjhmbbfniaaGreat.lw h0 λb hb=>h.dX b (hL b hb)
theorem BS.call(h:BS B rb bs m Q M)(h0:rb<m.size)(hL:∀b∈L,b∈B)(c:aD Tryz.prog f args M (PP T U (B++S) rb bs M Q')){K:Sl->Sl->ah->Prop}
 (hk:∀a b x M',U x->T (aY (B++S) M') a b x->BS B rb bs m Q' M'->Fz [rb] M M'->K a b M'):aD Tryz.prog f args M λv M'=>da L M M'/\∃r0 r1:Sl,v=.agg #[Sl.v r0,Sl.v r1]/\K r0 r1 M':=
 c.mono λ_ M'⟨a,b,x,e,t,u,r,f⟩=>⟨(h.lw h0 hL).cg f,a,b,e,hk a b x M' u t (h.to f r) f⟩
theorem BS.pick(h:BS B rb bs m Q M)(h0:rb<m.size)(hQ:Q<=10000000000000000)(hL:∀b∈L,b∈B)(n:Int){K:Int->ah->Prop}
 (hk:∀i M',0<=i->(i<n\/i=0)->BS B rb bs m (Q+1) M'->Fz [rb] M M'->K i M'):aD Tryz.prog 34 [vp rb 0,vi n] M λv M'=>da L M M'/\∃i:Int,v=vi i/\K i M':=
 (bo h.s.r hQ n).mono λ_ M'⟨i,e,i0,i1,r,f⟩=>⟨(h.lw h0 hL).cg f,i,e,hk i M' i0 i1 (h.to f r) f⟩
theorem BS.box{m1 m2:ah}{z l:List Ce}(h:BS B rb bs m Q M)(h1:m1=M.push (.cells (aU z) t))(h2:m2=ag m1 M.size 0 l)(hl:l.length=z.length):BS (M.size::B) rb bs m Q m2/\Le (aY (B++S) M) (aY (M.size::B++S) m2)/\bK m2 M.size t l:=by
 obtain⟨x,B',z⟩:=iA h1 h2 hl;have hz:=h.s.f.size;refine⟨⟨h.s.ext x,λc hc=>?_⟩,x.aY λb hb=>(List.mem_cons.1 hb).elim (λh=>Or.inr ab) Or.inl,B'⟩;rcases List.mem_cons.1 hc with e|e
 ·omega
 ·have:=h.dX c e;omega
theorem BS.put(h:BS B rb bs m Q M)(h0:Rd rb bs P0 m)(hk:k∈B)(l:List Ce):BS B rb bs m Q (ag M k 0 l)/\Le (aY (B++S) M) (aY (B++S) (ag M k 0 l)):=
 ⟨⟨h.s.put h0 (h.dX k hk).1 _ _,λc hc=>by rw[aq];exact h.dX c hc⟩,bt (by simp[hk]) λ_ h=>h⟩
theorem BS.le(dx:rb∈S)(f:Fz [rb] M M'):Le (aY (B++S) M) (aY (B++S) M'):=f.bO (by simp[dx])
theorem BS.fG(h:BS B rb bs m Q M)(hT:Mn T)(h0:Rd rb bs P0 m)(hk:k∈B)(ht:T (aY (B++S) M) a b x)(hu:U x)(hQ:Q<=Q')(l:List Ce):PP T U S rb bs m Q' (.agg #[Sl.v a,Sl.v b]) (ag M k 0 l):=
 have⟨h',e⟩:=h.put (S:=S) h0 hk l
 ⟨a,b,x,rfl,hT _ _ _ _ _ (e.trans (eY _ λ_=>aGu _)) ht,hu,h'.s.r.mono hQ,h'.s.f⟩
theorem BS.jm(h0:Rd rb bs Q m)(o:Obj):BS [m.size] rb bs m Q (m.push o)/\Le (aY S m) (aY ([m.size]++S) (m.push o)):=⟨⟨⟨(af.push m o).fz _,h0.ext (af.push m o)⟩,az⟩,qN (af.push m o) (aFR _)⟩
theorem KN{ds:List aS}{c:Prop}{W:Nat}(h:tw f args M S ds λrs=>xc ds rs c W)(hd:ds∈pL)(r:Rd rb bs Q M):aD Tryz.prog f args M (PP NT (UN c W) S rb bs M Q):=
 h.mono λ_ _⟨d,r',rs,e,n,o,x⟩=>⟨d,r',(ds,rs),e,n,⟨o,hd⟩,r.ext x,x.fz _⟩
theorem acC{ds:List aS}(h:RO f args M S ds Dc)(hd:ds∈pL)(r:Rd rb bs Q M):aD Tryz.prog f args M (PP IT UI S rb bs M Q):=
 h.mono λ_ _⟨d,r',rs,e,n,n',o,x⟩=>⟨d,r',(ds,rs),e,⟨n,n'⟩,⟨o,hd⟩,r.ext x,x.fz _⟩
end
section
variable{S:List Nat}{m:ah}{rb P:Nat}{bs:Sl}
theorem Hd(hS:∀c∈S,c<m.size)(dx:rb∈S)(h0:Rd rb bs P m)(hP:P+1000+4*(300+40*Cg 18)<=10000000000000000):aD Tryz.prog 119 [vp rb 0] m (PP NT (UN False 95) S rb bs m (P+11+4*(300+40*Cg 18))):=by
 apply yr (rb,0);simp -zeta only[aw,ax];have hr:=h0.lt;intro m1;obtain⟨b1,-⟩:BS [m.size] rb bs m P m1/\True:=⟨(BS.jm (S:=S) h0 _).1,trivial⟩;clear_value m1;refine b1.call (T:=GT) (U:=λx=>afm x.1 x.2) (S:=S) hr (λ_ h=>h) ((Dd (b1.hS hS) (by simp[dx]) b1.s.r ab).mono λv M⟨d,p,ds,l,e,h1,h2,h3,h4,h5⟩=>⟨d,p,(ds,l),e,⟨h1,h2⟩,h3,h4,h5⟩) λd p x m2 u t b2 f2=>?_;refine b2.call (S:=S) hr (λ_ h=>h) (KN (Hb (b2.hS hS) (t.1.le (aV _ _)) (cY.le t.2 (aV _ _) λ_ _=>FuR.mono.le (aV _ _)) u) u.gp.ds b2.s.r) λd3 r3 x3 m3 u3 t3 b3 f3=>?_;intro m4 m5;obtain⟨b5,l5,-⟩:=b3.box (S:=S) (m1:=m4) (m2:=m5) rfl rfl rfl;clear_value m5;have t5:=NT.mn _ _ _ _ _ l5 t3;refine b5.pick hr ab (λ_ h=>h) 3 λi m6 _ _ b6 f6=>?_;have t6:=NT.mn _ _ _ _ _ (BS.le dx f6) t5;refine⟨λ_=>?_,λ_=>b6.fG NT.mn h0 az t6 u3 ab _⟩;exact b6.call (S:=S) hr (λ_ h=>h) (KN (IJ (b6.hS hS) (t6.le (aV _ _)) ab u3.1) u3.2 b6.s.r) λd7 r7 x7 m7 u7 t7 b7 f7=>b7.fG NT.mn h0 az t7 u7 ab _
theorem Df(hS:∀c∈S,c<m.size)(dx:rb∈S)(h0:Rd rb bs P m)(hP:P+1000+4*(300+40*Cg 18)<=10000000000000000):aD Tryz.prog 92 [vp rb 0] m (PP NT (UN True 104500) S rb bs m (P+12+4*(300+40*Cg 18))):=by
 apply va (rb,0);simp -zeta only[aw,ax];have hr:=h0.lt;intro m1;obtain⟨b1,-⟩:BS [m.size] rb bs m P m1/\True:=⟨(BS.jm (S:=S) h0 _).1,trivial⟩;clear_value m1;refine b1.call (S:=S) hr (λ_ h=>h) (Hd (b1.hS hS) (by simp[dx]) b1.s.r ab) λd2 r2 x2 m2 u2 t2 b2 f2=>?_;intro m3 m4;obtain⟨b4,l4,-⟩:=b2.box (S:=S) (m1:=m3) (m2:=m4) rfl rfl rfl;clear_value m4;have t4:=NT.mn _ _ _ _ _ l4 t2;refine b4.call (S:=S) hr (λ_ h=>h) (KN (Kb (b4.hS hS) (t4.le (aV _ _)) u2.1) u2.2 b4.s.r) λd5 r5 x5 m5 u5 t5 b5 f5=>?_;intro m6 m7;obtain⟨b7,l7,-⟩:=b5.box (S:=S) (m1:=m6) (m2:=m7) rfl rfl rfl;clear_value m7;have t7:=NT.mn _ _ _ _ _ l7 t5;refine b7.pick hr ab (λ_ h=>h) 4 λi m8 _ _ b8 f8=>?_;have t8:=NT.mn _ _ _ _ _ (BS.le dx f8) t7;refine⟨λ_=>?_,λ_=>b8.fG NT.mn h0 az t8 u5 ab _⟩;have t8':=NT.mn _ _ _ _ _ (((BS.le dx f5).trans l7).trans (BS.le dx f8)) t4;refine b8.call (S:=S) hr (λ_ h=>h) (KN (PV (b8.hS hS) (t8'.le (aV _ _)) u2.1) u2.2 b8.s.r) λd9 r9 x9 m9 u9 t9 b9 f9=>?_;intro cK;obtain⟨NO,NM⟩:=b9.put (S:=S) h0 (by simp:m5.size∈_) [.s d9,.s r9];exact NO.fG NT.mn h0 az (NT.mn _ _ _ _ _ NM t9) u9 ab _
end
end
section
structure BF(S:List Nat)(rb:Nat)(bs:Sl)(m:ah)(k Q W:Nat)(M:ah):Prop where
 b:BS [k,m.size] rb bs m Q M
 x:∃d r x,bK M k kd [.s d,.s r]/\NT (aY (k::m.size::S) M) d r x/\UN True W x
theorem UN.mono{c:Prop}{W W':Nat}{x:List aS×List di}(h:UN c W x)(hW:W<=W'):UN c W' x:=⟨⟨h.1.eZ,λq hq=>let⟨a,b,d,e⟩:=h.1.cq q hq;⟨a,b,d,aF8 e hW⟩⟩,h.2⟩
section
variable{S L:List Nat}{rb k Q Q' W W' P0 f:Nat}{bs:Sl}{m M M':ah}{K:ah->Prop}{args:Sl->Sl->List Value}
theorem BF.mono(h:BF S rb bs m k Q W M)(hQ:Q<=Q')(hW:W<=W'):BF S rb bs m k Q' W' M:=⟨⟨⟨h.b.s.f,h.b.s.r.mono hQ⟩,h.b.dX⟩,let⟨d,r,x,a,b,c⟩:=h.x;⟨d,r,x,a,b,c.mono hW⟩⟩
theorem BF.to(h:BF S rb bs m k Q W M)(hr:rb<m.size)(dx:rb∈S)(f:Fz [rb] M M')(b:BS [k,m.size] rb bs m Q' M'):BF S rb bs m k Q' W M':=
 let⟨d,r,x,B,t,c⟩:=h.x
 ⟨b,d,r,x,B.congr (f.same k B.lt (by have:=h.b.dX k az;simp;omega)),NT.mn _ _ _ _ _ (BS.le (B:=[k,m.size]) dx f) t,c⟩
theorem BF.pick(h:BF S rb bs m k Q W M)(h0:rb<m.size)(dx:rb∈S)(hQ:Q<=10000000000000000)(hL:∀b∈L,b∈[k,m.size])(n:Int){K:Int->ah->Prop}
 (hk:∀i M',BF S rb bs m k (Q+1) W M'->K i M'):aD Tryz.prog 34 [vp rb 0,vi n] M λv M'=>da L M M'/\∃i:Int,v=vi i/\K i M':=
 h.b.pick h0 hQ hL n λi M' _ _ b f=>hk i M' (h.to h0 dx f b)
theorem BF.act(h:BF S rb bs m k Q W M)(h0:Rd rb bs P0 m)(hk:k≠m.size)(hL:∀b∈L,b=m.size)
 (c:∀d r x,NT (aY (k::m.size::S) M) d r x->UN True W x->aD Tryz.prog f (args d r) M (PP NT (UN True W') (k::m.size::S) rb bs M Q'))
 (next:∀M',BF S rb bs m k Q' W' M'->K M'):∃v0:Sl,ad M k 0=some (Sl.v v0)/\∃v1:Sl,ad M k 1=some (Sl.v v1)/\aD Tryz.prog f (args v0 v1) M λv M'=>da L M M'/\∃r0 r1:Sl,v=.agg #[Sl.v r0,Sl.v r1]/\dW M' k 0 2/\(da L M' (ag M' k 0 [.s r0,.s r1])/\K (ag M' k 0 [.s r0,.s r1])):=by
 obtain⟨d,r,x,B,t,u⟩:=h.x
 have hr:=h0.lt
 have jk:=h.b.dX k az
 refine⟨d,B.bH 0,r,B.bH 1,h.b.call (S:=S) (L:=L) hr (λb hb=>by simp[hL b hb]) (c d r x t u) λd' r' x' M' u' t' b' f'=>?_⟩
 have B':=B.congr (f'.same k B.lt bg)
 obtain⟨b2,l2⟩:=b'.put (S:=S) h0 (by simp:k∈_) [.s d',.s r']
 exact⟨B'.dW az,λc hc=>aP _ _ _ _ (by rw[hL c hc];exact aHh hk),next _ ⟨b2,d',r',x',bK.ag (m:=M') (o:=0) (r:=[.s d',.s r']) B',NT.mn _ _ _ _ _ l2 t',u'⟩⟩
theorem BF.aT(h:BF S rb bs m k Q W M)(h0:Rd rb bs P0 m)(hQ:Q<=Q'):∃v0:Sl,ad M k 0=some (Sl.v v0)/\∃v1:Sl,ad M k 1=some (Sl.v v1)/\PP NT (UN True W) S rb bs m Q' (.agg #[Sl.v v0,Sl.v v1]) (ag M m.size 0 [.s v0,.s v1]):=
 let⟨d,r,_,B,t,u⟩:=h.x
 ⟨d,B.bH 0,r,B.bH 1,h.b.fG NT.mn h0 az t u hQ _⟩
end
section
variable{S:List Nat}{m:ah}{rb P:Nat}{bs:Sl}
theorem ajF{f:Nat}{args:List Value}{M:ah}{Q:Nat}{ds:List aS}{c:Prop}{W:Nat}(h:WV f args M S rb bs Q ds λrs=>xc ds rs c W)(hd:ds∈pL):aD Tryz.prog f args M (PP NT (UN c W) S rb bs M Q):=
 h.mono λ_ _⟨d,r',rs,e,n,o,r,x⟩=>⟨d,r',(ds,rs),e,n,⟨o,hd⟩,r,x⟩
theorem TJ(hS:∀c∈S,c<m.size)(dx:rb∈S)(h0:Rd rb bs P m)(hP:P+4<=10000000000000000){W:Nat}(hW:W<=200000000000)(d r:Sl)(x:List aS×List di)(t:NT (aY S m) d r x)(u:UN True W x):aD Tryz.prog 93 [vp rb 0,.agg #[Sl.v d,Sl.v r]] m (PP NT (UN True (W+4)) S rb bs m (P+4)):=
 ajF (P8 hS dx h0 hP t u.1 hW) u.2
theorem Bf(hS:∀c∈S,c<m.size)(dx:rb∈S)(h0:Rd rb bs P m)(hP:P+1000+4*(300+40*Cg 18)<=10000000000000000):aD Tryz.prog 62 [vp rb 0] m (PP NT (UN True 98289774148) S rb bs m (P+24+4*(300+40*Cg 18))):=by
 apply tO (rb,0);simp -zeta only[aw,ax];have hr:=h0.lt;intro m1;have z1:m1.size=m.size+1:=by simp[m1]
 obtain⟨b1,-⟩:BS [m.size] rb bs m P m1/\True:=⟨(BS.jm (S:=S) h0 _).1,trivial⟩;clear_value m1;refine b1.call (S:=S) hr (λ_ h=>h) (Df (b1.hS hS) (by simp[dx]) b1.s.r ab) λd2 r2 x2 m2 u2 t2 b2 f2=>?_;have z2:=f2.size;intro m3 m4;obtain⟨b4,l4,B4⟩:=b2.box (S:=S) (m1:=m3) (m2:=m4) rfl rfl rfl;clear_value m4;have t4:=NT.mn _ _ _ _ _ l4 t2;have hk:m2.size≠m.size:=ab;have Q3:∀{M:ah}{Q W:Nat},BF S rb bs m m2.size Q W M->∀c∈m2.size::m.size::S,c<M.size:=λh=>h.b.hS hS;have amc:rb∈m2.size::m.size::S:=by simp[dx]
 refine⟨BF S rb bs m m2.size (P+17+4*(300+40*Cg 18)) 104504,?_,λm7 s7=>?_⟩
 ·refine b4.pick hr ab (λ_ h=>h) 4 λi m5 _ _ b5 f5=>?_;have t5:=NT.mn _ _ _ _ _ (BS.le (B:=[m2.size,m.size]) dx f5) t4;have B5:=B4.congr (f5.same _ B4.lt bg);refine⟨λ_=>b5.call (S:=S) hr (λ_ h=>h) (TJ (b5.hS hS) amc b5.s.r ab ab d2 r2 x2 t5 u2) λd r x m6 u6 t6 b6 f6=>?_,λ_=>BF.mono ⟨b5,d2,r2,x2,B5,t5,u2⟩ ab ab⟩;intro m7;obtain⟨b7,l7⟩:=b6.put (S:=S) h0 (by simp:m2.size∈_) [.s d,.s r];exact BF.mono ⟨b7,d,r,x,bK.ag (m:=m6) (o:=0) (r:=[.s d,.s r]) (B5.congr (f6.same _ B5.lt bg)),NT.mn _ _ _ _ _ l7 t6,u6⟩ ab ab
 refine⟨BF S rb bs m m2.size (P+18+4*(300+40*Cg 18)) 10921086016,?_,λdm DE=>?_⟩
 ·refine s7.pick hr dx ab az 4 λi m8 s8=>⟨λ_=>s8.act h0 hk az (λd r x t u=>KN (Gz (Q3 s8) (t.le (aV _ _)) ab u.1) u.2 s8.b.s.r) λM' h=>h.mono ab ab,λ_=>s8.mono ab ab⟩
 refine DE.pick hr dx ab az 3 λi df NJ=>?_;refine⟨BF S rb bs m m2.size (P+19+4*(300+40*Cg 18)) 98289774144,⟨λ_=>NJ.act h0 hk az (λd r x t u=>KN (Db (Q3 NJ) (t.le (aV _ _)) ab u.1) u.2 NJ.b.s.r) λM' h=>h.mono ab ab,λ_=>NJ.mono ab ab⟩,λkT Re=>?_⟩;refine⟨BF S rb bs m m2.size (P+19+4*(300+40*Cg 18)) 98289774144,⟨λ_=>Re.act h0 hk az (λd r x t u=>KN (Ms (Q3 Re) (t.le (aV _ _)) ab u.1) u.2 Re.b.s.r) λM' h=>h.mono ab ab,λ_=>Re.mono ab ab⟩,λsY s18=>?_⟩;refine s18.pick hr dx ab az 6 λi Pj s19=>⟨λ_=>s19.act h0 hk az (λd r x t u=>TJ (Q3 s19) amc s19.b.s.r ab ab d r x t u) λM' h=>h.aT h0 ab,λ_=>(s19.mono (Q':=P+24+4*(300+40*Cg 18)) (W':=98289774148) ab ab).aT h0 ab⟩
theorem He(hS:∀c∈S,c<m.size)(dx:rb∈S)(h0:Rd rb bs P m)(hP:P+1000+4*(300+40*Cg 18)<=10000000000000000):aD Tryz.prog 33 [vp rb 0] m (PP IT UI S rb bs m (P+25+4*(300+40*Cg 18))):=by
 apply xP (rb,0);simp -zeta only[aw,ax];have hr:=h0.lt;intro m1;obtain⟨b1,-⟩:BS [m.size] rb bs m P m1/\True:=⟨(BS.jm (S:=S) h0 _).1,trivial⟩;clear_value m1;refine b1.call (S:=S) hr (λ_ h=>h) (Bf (b1.hS hS) (by simp[dx]) b1.s.r ab) λd2 r2 x2 m2 u2 t2 b2 f2=>?_;refine b2.call (S:=S) hr (λ_ h=>h) (acC (KM (b2.hS hS) (t2.le (aV _ _)) u2.1 ab) u2.2 b2.s.r) λd3 r3 x3 m3 u3 t3 b3 f3=>?_;intro m4 m5;obtain⟨b5,l5,-⟩:=b3.box (S:=S) (m1:=m4) (m2:=m5) rfl rfl rfl;clear_value m5;have t5:=IT.mn _ _ _ _ _ l5 t3;refine b5.pick hr ab (λ_ h=>h) 3 λi m6 _ _ b6 f6=>?_;have t6:=IT.mn _ _ _ _ _ (BS.le dx f6) t5;refine⟨λ_=>?_,λ_=>b6.fG IT.mn h0 az t6 u3 ab _⟩;exact b6.call (S:=S) hr (λ_ h=>h) (acC (G8 (b6.hS hS) (t6.1.le (aV _ _)) (rq u3.2) (eV.le (aV _ _) t6.2) u3.1) u3.2 b6.s.r) λd7 r7 x7 m7 u7 t7 b7 f7=>b7.fG IT.mn h0 az t7 u7 ab _
end
end
section
section
variable{S:List Nat}{m M:ah}{rb P Q:Nat}{bs:Sl}
theorem zl(h:Rs rb bs m Q M)(hQ:Q<=10000000000000000)(ls:List Int){cs:List Ce}{n:Nat}(kJ:cs=ls.map Ce.i)(hn:n=ls.length)(hl:0<ls.length/\ls.length<=100):
 aD Tryz.prog 40 [vp rb 0,Sl.v (.mk M.size 0 n n)] (M.push (.cells (aU cs) au)) λv M'=>∃t:Int,v=vi t/\t∈ls/\Rs rb bs m (Q+1) M'/\Fz [rb] (M.push (.cells (aU cs) au)) M':=by
 have x:=af.push M (.cells (aU cs) au)
 have cA:=h.r.lt
 refine(ij (h.ext x).r hQ (aj.lit au ls (by simp;exact cA) kJ hn ab) hl.1).mono λv M'⟨k,e,hk,r,f⟩=>⟨k,e,hk,(h.ext x).to f r,f⟩
theorem _root_.Go.Vc.Gr.KO{m0 M':ah}{s:Sl}{l:List Int}(h:GI S m0 M s l)(f:Fz [rb] M M')(hr:rb<m0.size):GI S m0 M' s l:=have:=h.aN;GI.fK h (f.same _ this.2 bg)
theorem ou(h0:Rd rb bs P m)(hP:P+10<=10000000000000000){list:Sl}{l:List Int}(hl:aj m list l)(hb:l.length<=1000000000000):aD Tryz.prog 41 [vp rb 0,Sl.v list] m λv m'=>∃s l',v=Sl.v s/\GI [] m m' s l'/\l'.length<=l.length+1/\(∀w∈l',w∈l\/-1<=w/\w<=1001)/\Rd rb bs (P+3) m'/\Fz [rb] m m':=by
 apply qd (rb,0);have hr:=h0.lt;refine(ba [] hl ab).mono λ_ m1⟨s,l',e,g,e',x1⟩=>⟨s,e,?_⟩;subst e';have hlen:=g.len aO;have r1:Rs rb bs m P m1:=⟨x1.fz _,h0.ext x1⟩;have fG:∀{M:ah}{Q:Nat},Rs rb bs m Q M->Q<=P+2->GI [] m M s l->aD Tryz.prog 40 [vp rb 0,Sl.v (.mk M.size 0 5 5)] (M.push (.cells (aU [.i 0,.i 1,.i 2,.i (-1),.i 1000]) au)) λr M2=>∃k:Int,r=vi k/\
  gA (M2.push (.cells (aU [.i k]) au)) au [.i 0] 8 s (.mk M2.size 0 1 1) λt M'=>∃s l',Sl.v t=Sl.v s/\GI [] m M' s l'/\l'.length<=l.length+1/\(∀w∈l',w∈l\/-1<=w/\w<=1001)/\Rd rb bs (P+3) M'/\Fz [rb] m M':=λ{M Q} rM hQ gM=>
  (zl rM ab [0,1,2,-1,1000] rfl rfl az).mono λ_ M2⟨t,e,ht,r2,f2⟩=>⟨t,e,by
   have g2:=(gM.ext (af.push M _)).KO f2 hr;refine GI.iN g2 r2.f az ab λr m' g' f' z' q'=>⟨r,_,rfl,g',az,λw hw=>?_,?_,f'⟩
   ·rcases List.mem_append.1 hw with h|h
    ·exact Or.inl h
    ·simp at h ht;exact Or.inr ab
   ·exact(h0.Mr r2.r f' (q' rb r2.r.lt (by have:=g2.aN;omega))).mono ab⟩
 refine⟨λh1=>?_,λ_=>fG r1 ab g⟩;simp only[aHn,aFP]at h1;refine(bo r1.r ab 2).mono λ_ m2⟨i,e,_,_,d2,f2⟩=>⟨i,e,λ_=>?_,λ_=>fG (r1.to f2 d2) ab (g.KO f2 hr)⟩;have r2:=r1.to f2 d2;have g2:=g.KO f2 hr;refine(bo r2.r ab (s.len:Int)).mono λ_ m3⟨k,e,k0,k1,d3,f3⟩=>⟨k,e,?_⟩;have r3:=r2.to f3 d3;refine(zl r3 ab [0,1,-1,7,1000,1001] rfl rfl az).mono λ_ m5⟨t,e,ht,r5,f5⟩=>⟨t,e,k0,ab,?_⟩;have g5:=((g2.KO f3 hr).ext (af.push m3 _)).KO f5 hr;obtain⟨w,g6,f6,q6⟩:=g5.set r5.f (k:=k.toNat) ab t;refine⟨w,s,_,rfl,g6,az,λw hw=>?_,(h0.Mr r5.r f6 (q6 rb (by have:=g5.aN;omega))).mono ab,f6⟩;rcases aGd hw with h|h
 ·exact Or.inl h
 ·simp at ht;exact Or.inr ab
def IX(Z:List Nat)(rb:Nat)(bs:Sl)(m:ah)(P:Nat)(U:Instr->Prop)(v:Value)(m':ah):Prop:=∃x a j,v=inV x a j/\aj (aY Z m') a x.args/\aj (aY Z m') j x.cW/\U x/\Rd rb bs P m'/\Fz [rb] m m'
theorem ux(S:List Nat){a j:Sl}{x:Instr}(ha:aj m a x.args)(hj:aj m j x.cW)(hb:x.args.length<=1000000000000/\x.cW.length<=1000000000000):
 aD Tryz.prog 98 [inV x a j] m λv m'=>∃a' j',v=inV x a' j'/\GI S m m' a' x.args/\GI S m m' j' x.cW/\a'.ao≠j'.ao/\af m m':=by
 apply oR
 simp -zeta only[aw,ax]
 intro m1 m2
 obtain⟨x2,hl⟩:=cv (m1:=m1) (m2:=m2) rfl rfl
 have s1:m1.size=m.size+1:=by simp[m1]
 clear_value m2
 have E:∀{M M':ah},af m2 M->af M M'->∀o,ad M' m.size o=ad M m.size o:=λh h' o=>aA (h'.same _ (h.lt (hl _ az))) o
 refine(ba S (ha.ext x2) hb.1).ay (af.av m2) hl λa' _ m3 ga e x3 _=>⟨_,rfl,E (af.av _) x3 _,E (af.av _) x3 _,E (af.av _) x3 _,E (af.av _) x3 _,E (af.av _) x3 _,?_⟩
 subst e
 refine(ba S (hj.ext (x2.trans x3)) hb.2).ay x3 hl λj' _ m4 gj e x4 u4=>⟨_,rfl,E x3 x4 _,E x3 x4 _,E x3 x4 _,E x3 x4 _,?_⟩
 subst e
 intro m5
 have ya:=ga.aN;have yj:=gj.aN
 have h1:=hl m1.size az
 exact⟨a',j',rfl,((ga.ext x4).fK (aP _ _ _ _ ab)).bN (λ_ h=>h) x2.size,(gj.fK (aP _ _ _ _ ab)).bN (λ_ h=>h) (x2.trans x3).size,ab,(x2.trans u4).ag ab _ _⟩
end
structure BI(a0:ah)(k rb:Nat)(bs:Sl)(m:ah)(Q:Nat)(M:ah)(a j:Sl)(l l':List Int):Prop where
 ga:GI [] a0 M a l
 gj:GI [] a0 M j l'
 ne:a.ao≠j.ao
 s:Rs rb bs m Q M
 lo:m.size+2<=a0.size/\l.length<=1000000000001/\l'.length<=1000000000001
 hi:a.ao≠k/\j.ao≠k/\m.size<=k/\k<M.size
section
variable{Z L:List Nat}{a0 m M M':ah}{rb k P P' Q Q':Nat}{bs a j:Sl}{l l':List Int}
theorem BI.to(h:BI a0 k rb bs m Q M a j l l')(h0:rb<m.size)(f:Fz [rb] M M')(r:Rd rb bs Q' M'):BI a0 k rb bs m Q' M' a j l l':=
 have:=h.lo
 ⟨h.ga.KO f ab,h.gj.KO f ab,h.ne,h.s.to f r,h.lo,h.hi.1,h.hi.2.1,h.hi.2.2.1,aFY h.hi.2.2.2 f.size⟩
theorem BI.put(h:BI a0 k rb bs m Q M a j l l')(h0:Rd rb bs P m)(o:Nat)(cs:List Ce):BI a0 k rb bs m Q (ag M k o cs) a j l l':=
 have:=h.lo;have:=h.hi;have:=h.ga.aN
 ⟨GI.fK h.ga (aP _ _ _ _ ab),GI.fK h.gj (aP _ _ _ _ ab),h.ne,h.s.put h0 ab _ _,h.lo,by rw[aq];exact h.hi⟩
theorem BI.fG{U:Instr->Prop}(h:BI a0 k rb bs m Q M a j l l')(h0:Rd rb bs P m)(hZ:∀c∈Z,c<m.size){b:Nat}(hb:b=m.size+1)(hQ:Q<=P'){o d n i:Int}(hU:U ⟨o,d,n,i,l,l'⟩)(cs:List Ce):IX Z rb bs m P' U (.agg #[vi o,vi d,vi n,vi i,Sl.v a,Sl.v j]) (ag M b 0 cs):=by
 have:=h.lo;have:=h.hi;have y:=h.ga.aN;have y':=h.gj.aN;have r:=h.s.put h0 (k:=b) ab 0 cs;exact⟨⟨o,d,n,i,l,l'⟩,a,j,rfl,Gr.done rP.mono (GI.any (GI.fK h.ga (aP _ _ _ _ ab))) (λc hc=>by have:=hZ c hc;omega) aO (aF8 h.lo.2.1 aO),Gr.done rP.mono (GI.any (GI.fK h.gj (aP _ _ _ _ ab))) (λc hc=>by have:=hZ c hc;omega) aO (aF8 h.lo.2.2 aO),hU,r.r.mono hQ,r.f⟩
theorem BI.pick(h:BI a0 k rb bs m Q M a j l l')(h0:rb<m.size)(hQ:Q<=10000000000000000)(hL:∀b∈L,m.size<=b/\b<=k)(n:Int){K:Int->ah->Prop}
 (hk:∀i M',0<=i->(i<n\/i=0)->BI a0 k rb bs m (Q+1) M' a j l l'->(∀o,ad M' k o=ad M k o)->Fz [rb] M M'->K i M'):aD Tryz.prog 34 [vp rb 0,vi n] M λv M'=>da L M M'/\∃i:Int,v=vi i/\K i M':=
 have:=h.lo;have:=h.hi;have:=h.ga.aN
 (bo h.s.r hQ n).mono λ_ M'⟨i,e,i0,i1,r,f⟩=>⟨f.cg λb hb=>by have:=hL b hb;simp;omega,i,e,hk i M' i0 i1 (h.to h0 f r) (λo=>aA (f.same k h.hi.2.2.2 bg) o) f⟩
end
def Xh(x y:Instr):Prop:=(∀k,P9 k x->P9 k y)/\y.args.length<=1000000000000/\y.cW.length<=1000000000000
theorem Hf{Z:List Nat}{m:ah}{rb P:Nat}{bs a j:Sl}{x:Instr}(hZ:∀c∈Z,c<m.size)(h0:Rd rb bs P m)(hP:P+10<=10000000000000000)(ha:aj (aY [rb] m) a x.args)(hj:aj m j x.cW)(hb:x.args.length<=1000000000000/\x.cW.length<=1000000000000)(hx:∃k,P9 k x):
 aD Tryz.prog 65 [vp rb 0,inV x a j] m (IX Z rb bs m (P+3) (Xh x)):=by
 apply yf (rb,0)
 simp(config:={maxSteps:=1000000}) -zeta only[aw,ax]
 have hr:=h0.lt
 intro m1 m2
 obtain⟨x2,hl⟩:=cv (m1:=m1) (m2:=m2) rfl rfl
 have s1:m1.size=m.size+1:=by simp[m1]
 have s2:m2.size=m.size+2:=by simp[m2,s1]
 clear_value m2
 clear_value m1
 refine(ux [] ((ha.le (aV _ _)).ext x2) (hj.ext x2) hb).mono λ_ m3⟨a',j',e,ga,gj,cx,x3⟩=>⟨x3.cg hl,_,_,_,_,_,_,e,?_⟩
 intro m4 m5
 obtain⟨x5,-,z5⟩:=iA (M:=m3) (m1:=m4) (m2:=m5) rfl rfl rfl
 clear_value m5
 have ya:=ga.aN;have yj:=gj.aN
 have X5:=(x2.trans x3).trans x5
 have b5:BI m2 m3.size rb bs m P m5 a' j' x.args x.cW:=⟨ga.ext x5,gj.ext x5,cx,⟨X5.fz _,h0.ext X5⟩,⟨ab,aHf hb.1,aHf hb.2⟩,ab,ab,ab,ab⟩
 have hL:∀b∈[m3.size,m1.size,m.size],m.size<=b/\b<=m3.size:=bg
 obtain⟨xo,xd,xn,xi,xa,xj⟩:=x
 have EA:Xh ⟨xo,xd,xn,xi,xa,xj⟩ ⟨xo,xd,xn,xi,xa,xj⟩:=⟨λ_ h=>h,hb⟩
 refine b5.pick hr ab hL 5 λi m6 _ _ b6 _ f6=>?_
 have same:∀{M:ah}{Q:Nat},BI m2 m3.size rb bs m Q M a' j' xa xj->Q<=P+3->IX Z rb bs m (P+3) (Xh ⟨xo,xd,xn,xi,xa,xj⟩) (.agg #[vi xo,vi xd,vi xn,vi xi,Sl.v a',Sl.v j']) (ag M m1.size 0 [.i xo,.i xd,.i xn,.i xi,.s a',.s j']):=λh hQ=>h.fG h0 hZ s1 hQ EA _
 have drop:xo=16\/xo=17->(0:Int)<=0/\(0:Int)<(a.len:Int)/\∃v:Int,ad m6 a.ao (a.off+Int.toNat 0*1)=some (vi v)/\IX Z rb bs m (P+3) (Xh ⟨xo,xd,xn,xi,xa,xj⟩) (.agg #[vi 15,vi 0,vi 0,vi 0,Sl.v (.mk m6.size 0 1 1),Sl.v .nil]) (ag (m6.push (.cells (aU [.i v]) au)) m1.size 0 [.i 15,.i 0,.i 0,.i 0,.s (.mk m6.size 0 1 1),.s .nil]):=λe=>by
  have hn:0<xa.length:=let⟨_,h⟩:=hx;h.arg bg;have jK:=ha.len;obtain⟨y,hy⟩:=ae (l:=xa) (k:=0) hn;have z6:=b6.hi;have x7:=af.push m6 (.cells (aU [.i y]) au);have r7:=(b6.s.ext x7).put h0 (k:=m1.size) ab 0 [.i 15,.i 0,.i 0,.i 0,.s (.mk m6.size 0 1 1),.s .nil];have g7:GI [] m6 (m6.push (.cells (aU [.i y]) au)) (.mk m6.size 0 1 1) [y]:=Gr.lit (css:=[[.i y]]) rP.mono (aFR _) az rfl rfl ⟨rfl,az,λj cs x h1 h2=>by
   cases j with
   |zero=>simp at h1 h2;rw[<-h1,<-h2];rfl
   |succ j=>simp at h1⟩
  exact⟨aGw 0,by simp at jK;omega,y,(cT.1 ((ha.le (b6.s.f.bO az)).aE hy)).2,⟨15,0,0,0,[y],[]⟩,_,.nil,rfl,GI.done (GI.any (GI.fK g7 (aP _ _ _ _ bg))) (λc hc=>by have:=hZ c hc;omega) az,⟨rfl,aGq _,az,az⟩,⟨λ_ _=>⟨λh=>by simp at h,λh=>by simp at h⟩,az,az⟩,r7.r.mono ab,r7.f⟩
 refine⟨λ_=>⟨λe=>?_,λ_=>⟨λe=>?_,λ_=>⟨λe=>?_,λ_=>same b6 ab⟩⟩⟩,λ_=>⟨λ_=>⟨λh1=>?_,λ_=>same b6 ab⟩,λ_=>⟨λ_=>?_,λ_=>⟨λ_=>⟨λe=>?_,λ_=>⟨λe=>?_,λ_=>⟨λe=>?_,λ_=>same b6 ab⟩⟩⟩,λ_=>⟨λ_=>⟨λe=>?_,λ_=>⟨λe=>?_,λ_=>same b6 ab⟩⟩,λ_=>same b6 ab⟩⟩⟩⟩⟩
 ·simp only[aFZ]at e
  exact(b6.put h0 _ _).fG h0 hZ s1 ab ⟨λ_ _=>⟨λh=>by simp at h,λh=>by simp at h⟩,hb⟩ _
 ·exact(b6.put h0 _ _).fG h0 hZ s1 ab ⟨λ_ _=>⟨λh=>by simp at h,λh=>by simp at h⟩,hb⟩ _
 ·simp only[aFZ]at e
  exact(b6.put h0 _ _).fG h0 hZ s1 ab ⟨λ_ h=>⟨λh=>by simp at h,λ_=>h.arg (by simp[e])⟩,hb⟩ _
 ·simp only[aHn,aFP]at h1
  have jK:=b6.ga.len aO
  refine b6.pick hr ab hL (a'.len:Int) λk m7 k0 k1 b7 g7 f7=>⟨g7 4,b7.pick hr ab hL 4 λv m8 _ _ b8 g8 f8=>⟨g8 4,k0,ab,?_⟩⟩
  obtain⟨w,g9,f9,q9⟩:=GI.set b8.ga (((((x3.trans x5).fz [rb]).trans f6).trans f7).trans f8) (k:=k.toNat) (by show k.toNat<xa.length;have:a'.len=xa.length:=jK;omega) v
  have yb:=b8.hi
  refine⟨w,λb hb=>q9 b (by have:=hL b hb;simp at hb;omega),BI.fG (k:=m3.size) (l:=xa.set k.toNat v) (l':=xj) ⟨g9,GI.fK b8.gj (q9 _ (aHh cx)),cx,⟨b8.s.f.ag (Or.inr ab) _ _,h0.ag b8.s.r b8.s.f ab _ _⟩,⟨ab,by simpa using aHf hb.1,aHf hb.2⟩,ab,ab,ab,by rw[aq];omega⟩ h0 hZ s1 ab ⟨λ_ h=>⟨h.Mu,λe=>by simpa using h.arg e⟩,by simpa using hb⟩ _⟩
 ·refine(vv xo m6).any.mono λ_ m7⟨b,e,x7⟩=>⟨x7.cg λb hb=>by have:=hL b hb;have:=b6.hi;omega,b,e,λ_=>?_,λ_=>same (b6.to hr (x7.fz _) (b6.s.r.ext x7)) ab⟩
  exact(b6.to hr (x7.fz _) (b6.s.r.ext x7)).pick hr ab hL 4 λv m8 _ _ b8 _ _=>(b8.put h0 _ _).fG h0 hZ s1 ab ⟨λ_ h=>⟨h.Mu,h.arg⟩,hb⟩ _
 ·exact drop (Or.inl (by simpa using e))
 ·exact drop (Or.inr (by simpa using e))
 ·exact b6.pick hr ab hL 4 λv m8 _ _ b8 _ _=>(b8.put h0 _ _).fG h0 hZ s1 ab ⟨λ_ h=>⟨h.Mu,h.arg⟩,hb⟩ _
 ·simp only[aFZ]at e
  exact b6.pick hr ab hL 9 λv m8 _ _ b8 _ _=>(b8.put h0 _ _).fG h0 hZ s1 ab ⟨λ_ h=>⟨λh=>by simp[e]at h,h.arg⟩,hb⟩ _
 ·simp only[aFZ]at e
  exact b6.pick hr ab hL 3 λv m8 _ _ b8 _ _=>(b8.put h0 _ _).fG h0 hZ s1 ab ⟨λ_ h=>⟨λh=>by simp[e]at h,h.arg⟩,hb⟩ _
end
section
def RA(M:ah)(cs:List Ce)(x:bY×Sl):Prop:=∃a b,cs=[.s a,.s b,.i x.1.aH,.i x.1.an,.s x.2]/\aj M a x.1.params/\aj M b x.1.bX
theorem RA.mono:lV 5 RA:=⟨λh⟨a,b,e,h1,h2⟩=>⟨a,b,e,h1.le h,h2.le h⟩,λ⟨_,_,e,_⟩=>by rw[e];rfl⟩
def hd(x:bY×Sl):bY×Sl:=({x.1 with bP:=[]},x.2)
abbrev Ks(l:List (bY×Sl)):List Nat:=l.map λx=>x.2.ao
structure uy(S:List Nat)(m0 M:ah)(dd q:Sl)(ds:List aS)(l:List (bY×Sl)):Prop where
 d:br (aY (q.ao::(Ks l++S)) M) dd ds
 g:Gr (Ks l++S) m0 M fN 5 RA q (l.map hd)
 c:∀x∈l,Gr (q.ao::(Ks l++S)) m0 M cI 6 cD x.2 x.1.bP
 nd:(Ks l).Nodup
 lt:∀b∈S,b<M.size
 nq:q.ao∉S
 nc:∀x∈l,x.2.ao∉S
section
variable{S S' Y:List Nat}{m0 m1 M M':ah}{dd q:Sl}{ds:List aS}{l:List (bY×Sl)}
theorem uy.kq(h:uy S m0 M dd q ds l):∀x∈l,x.2.ao≠q.ao:=λx hx=>(h.c x hx).JZ h.g aO
theorem uy.re(h:uy S m0 M dd q ds l)(f:Fz Y M M')(hY:∀b∈Y,b∈S)(hS:∀b∈S',(b∈S\/M.size<=b)/\b<M'.size)(hm:m1.size<=m0.size):uy S' m1 M' dd q ds l:=by
 have hq:=h.g.aN;have hx:∀{b:Nat},b∈Ks l++S'->b∈Ks l++S\/M.size<=b:=λhb=>by
  rcases List.mem_append.1 hb with e|e
  ·exact Or.inl (aF7 _ e)
  ·exact(hS _ e).1.imp (aGu _) id
 have ph:∀{b:Nat},b∈q.ao::(Ks l++S')->b∈q.ao::(Ks l++S)\/M.size<=b:=λhb=>by
  rcases List.mem_cons.1 hb with e|e
  ·exact Or.inl (by simp[e])
  ·exact(hx e).imp (aFT _) id
 refine⟨h.d.le (f.aY (λb hb=>by simp[hY b hb]) λb hb=>ph hb),Gr.bN RA.mono (h.g.re RA.mono f (λb hb=>by simp[hY b hb]) (λhc=>h.nq (hY _ hc)) λb hb=>hx hb) (λb hb=>Or.inl hb) hm,λx hxl=>Gr.bN cD.mono ((h.c x hxl).re cD.mono f (λb hb=>by simp[hY b hb]) (λhc=>h.nc x hxl (hY _ hc)) λb hb=>ph hb) (λb hb=>Or.inl hb) hm,h.nd,λb hb=>(hS b hb).2,λhc=>?_,λx hxl hc=>?_⟩
 ·rcases(hS _ hc).1 with e|e
  ·exact h.nq e
  ·omega
 ·have:=(h.c x hxl).aN;rcases(hS _ hc).1 with e|e
  ·exact h.nc x hxl e
  ·omega
theorem uy.bP(h:uy S m0 M dd q ds l){y:bY×Sl}(hm:y∈l)(hl:y.1.bP.length<=1000000000000):dq (aY (q.ao::S) M) y.2 y.1.bP:=
 have g:Gr (q.ao::S) m0 M cI 6 cD y.2 y.1.bP:=(h.c y hm).re cD.mono (Fz.av [] M) az az λb hb=>Or.inl (by rcases List.mem_cons.1 hb with e|e<;>simp[e])
 g.lB cD.mono (by simp;exact⟨h.kq y hm,h.nc y hm⟩) aO ab
theorem uy.gr(h:uy S m0 M dd q ds l)(hl:∀x∈l,x.1.bP.length<=1000000000000):Gr S m0 M fN 5 jc q (l.map (·.1)):=by
 obtain⟨n,css,o,r⟩:=h.g;refine⟨n,css,o,by simpa using r.len,r.size,λk cs x hk hx=>?_⟩;rw[aGb]at hx;cases hy:l[k]? with
 |none=>simp[hy]at hx
 |some y=>
  simp[hy]at hx;subst hx;obtain⟨a,b,e,h1,h2⟩:=r.cq k cs (hd y) hk (by simp[hy]);have hm:=ak hy;have w:Le (aY (q.ao::(Ks l++S)) M) (aY (q.ao::S) M):=eY M λb hb=>by rcases List.mem_cons.1 hb with e|e<;>simp[e]
  exact⟨a,b,y.2,e,h1.le w,h2.le w,h.bP hm (hl y hm)⟩
theorem uy.xI{L:List Nat}{M1 m8:ah}{a b ks:Sl}{p:bY}{bx tb i:Nat}{bc:List Ce}{K:ah->Prop}(h:uy S m0 M dd q ds l)(x:af M M1)(gk:Gr (q.ao::(Ks l++S)) m8 M1 cI 6 cD ks p.bP)(h8:M.size<=m8.size)
 (ha:aj (aY (ks.ao::q.ao::(Ks l++S)) M1) a p.params)(hb:aj (aY (ks.ao::q.ao::(Ks l++S)) M1) b p.bX)(B:bK M bx tb bc)(hi:i<bc.length)(ht:tb≠fN)(BQ:m0.size<=bx/\bx∈S)(hL:∀b∈L,b<M1.size/\b≠bx/\b≠q.ao)(hl:l.length<=1000)(hf:af m0 M)
 (hk:∀r m',uy S m0 m' dd r ds (l++[(p,ks)])->bK m' bx tb (fP bc i [.s r])->af m0 m'->K m'):
 ad (M1.push (.cells (aU [.s a,.s b,.i p.aH,.i p.an,.s ks]) fN)) bx i=ad M1 bx i/\
 gA (M1.push (.cells (aU [.s a,.s b,.i p.aH,.i p.an,.s ks]) fN)) fN [.s .nil,.s .nil,.i 0,.i 0,.s .nil] 88 q (.mk M1.size 0 1 1) λr m'=>da L (M1.push (.cells (aU [.s a,.s b,.i p.aH,.i p.an,.s ks]) fN)) m'/\dW m' bx i 1/\(da L m' (ag m' bx i [.s r])/\K (ag m' bx i [.s r])):=by
 have B1:=B.ext x
 have dF:=af.push M1 (.cells (aU [.s a,.s b,.i p.aH,.i p.an,.s ks]) fN)
 have yk:=gk.aN
 have yq:=h.g.aN
 have zx:=x.size
 have hq:q.ao≠bx:=λe=>h.nq (by rw[e];exact BQ.2)
 have kx:ks.ao∉S:=λhc=>by have:=h.lt _ hc;omega
 have ck:∀y∈l,y.2.ao<M.size:=λy hy=>(h.c y hy).aN.2
 have sub:∀b∈Ks (l++[(p,ks)])++S,b∈Ks l++S\/b=ks.ao:=λb hb=>by
  simp only[Ks,aGz,aGf,aGx,List.mem_append,aG1]at hb⊢;rcases hb with(e|e)|e<;>simp[e]
 have g1:Gr (Ks (l++[(p,ks)])++S) m0 M1 fN 5 RA q (l.map hd):=h.g.re RA.mono (x.fz []) az az λb hb=>(sub b hb).imp id λe=>ab
 have w1:Le (aY (ks.ao::q.ao::(Ks l++S)) M1) (aY (q.ao::(Ks (l++[(p,ks)])++S)) M1):=eY M1 λb hb=>by
  rcases List.mem_cons.1 hb with e|e
  ·simp[e]
  ·rcases sub b e with e|e
   ·exact aFT _ (aFT _ e)
   ·simp[e]
 refine⟨aA (dF.same bx B1.lt) i,Gr.iN (zs:=[.s .nil,.s .nil,.i 0,.i 0,.s .nil]) (a:=hd (p,ks)) RA.mono aO g1 ((hf.trans x).fz []) ⟨a,b,rfl,ha.le w1,hb.le w1⟩ bg λr m' g f z fr=>?_⟩
 have B2:=B1.congr (fr bx B1.lt (aHh hq))
 have hr:r.ao≠bx:=by have:=B1.lt;omega
 have q2:∀b,b≠bx->(ag m' bx i [.s r])[b]? =m'[b]? :=λb hb=>aP _ _ _ _ hb
 have F1:Fz [q.ao,bx] M1 (ag m' bx i [.s r]):=⟨by rw[aq];exact z.1,λb hb hn=>(q2 b (by simp at hn;omega)).trans (fr b hb (by simp at hn;omega))⟩
 have FM:Fz [q.ao,bx] M (ag m' bx i [.s r]):=(x.fz _).trans F1
 have F0:af m0 (ag m' bx i [.s r]):=(f.ag (Or.inr BQ.1) _ _).ext
 have hz1:=z.1
 have amd:∀b∈r.ao::(Ks (l++[(p,ks)])++S),(b∈q.ao::(Ks l++S)\/b=ks.ao)\/M1.size<=b:=λb hb=>by
  rcases List.mem_cons.1 hb with e|e
  ·rcases z.2 with e'|e'
   ·exact Or.inl (Or.inl (by simp[e,e']))
   ·exact Or.inr ab
  ·exact Or.inl ((sub b e).imp (aFT _) id)
 have ame:∀b∈r.ao::(Ks (l++[(p,ks)])++S),b∈q.ao::(Ks l++S)\/M.size<=b:=λb hb=>(amd b hb).elim (λe=>e.imp id λe=>ab) λe=>Or.inr ab
 have mY:∀b∈[q.ao,bx],b∈q.ao::(Ks l++S):=λb hb=>by simp at hb;rcases hb with e|e<;>simp[e,BQ.2]
 refine⟨λb hb=>?_,B2.dW ab,λb hb=>q2 b (hL b hb).2.1,hk r _ ⟨h.d.le (FM.aY mY ame),?_,λy hy=>?_,?_,λb hb=>?_,λhc=>?_,λy hy hc=>?_⟩ (bK.ag (m:=m') B2) F0⟩
 ·have h1:=hL b hb
  rw[fr b ab h1.2.2,dF.same b ab]
 ·rw[aGz]
  obtain⟨g0,css,g1,g2⟩:=g
  exact⟨g0,css,g1.congr (q2 _ hr),g2.mono λcs y=>RA.mono.le (mW λb hb hn=>⟨hn,q2 b λe=>hn (by rw[e];simp[BQ.2])⟩)⟩
 ·rcases List.mem_append.1 hy with e|e
  ·exact(h.c y e).re cD.mono FM mY (by simp;exact⟨h.kq y e,λe'=>h.nc y e (e'▸BQ.2)⟩) ame
  ·simp at e
   subst e
   obtain⟨n,css,o,rr⟩:=gk
   have gk':Gr (ks.ao::q.ao::(Ks l++S)) m8 M1 cI 6 cD ks p.bP:=⟨n,css,o,rr.mono λcs y=>cD.mono.le (eY M1 λb hb=>by
    rcases List.mem_cons.1 hb with e|e
    ·simp[e]
    ·exact e)⟩
   exact Gr.bN cD.mono (gk'.re cD.mono F1 (λb hb=>aFT _ (mY b hb)) (by simp;exact⟨ab,λe'=>kx (e'▸BQ.2)⟩) λb hb=>(amd b hb).imp (λe=>e.elim (aFT _) λe=>by simp[e]) id) (λb hb=>Or.inl hb) (by have:=hf.size;omega)
 ·simp only[Ks,aGz,aGf,aGx]
  refine List.nodup_append.2 ⟨h.nd,az,λb hb c hc=>?_⟩
  simp at hc hb
  obtain⟨y1,y2,hy,rfl⟩:=hb
  have:=ck _ hy
  simp at this;omega
 ·have:=h.lt b hb
  have:=FM.size
  omega
 ·rcases z.2 with e|e
  ·exact h.nq (e▸hc)
  ·have:=h.lt _ hc;omega
 ·rcases List.mem_append.1 hy with e|e
  ·exact h.nc y e hc
  ·simp at e
   subst e
   exact kx hc
end
end
theorem uz{S:List Nat}{m:ah}(hS:∀c∈S,c<m.size){d p:Sl}{ds:List aS}{ps:List bY}(hd:br m d ds)(ht:cE ds)(hp:eV m p ps)(lx:Dc ps):
 aD Tryz.prog 64 [.agg #[Sl.v d,Sl.v p]] m λv m'=>∃dd q l,v=.agg #[Sl.v dd,Sl.v q]/\uy S m m' dd q ds l/\l.map (·.1)=ps/\af m m':=by
 apply ye
 simp -zeta only[aw,ax]
 intro a1 a2
 obtain⟨x2,hl⟩:=cv (m1:=a1) (m2:=a2) rfl rfl
 have s1:a1.size=m.size+1:=by simp[a1]
 clear_value a2
 have tA:=hp.len;have Pe:=lx.lZ
 refine(dI (S:=a1.size::S) (bd hS x2.size (hl _ az)) (hd.le x2.le) ht).mono λ_ m2⟨dd,e,Hy,x3⟩=>?_
 subst e
 refine⟨x3.cg hl,_,rfl,?_⟩
 intro m3 m4 m5
 have u2:=x2.trans x3
 obtain⟨x5,B0,g0,s3,s5⟩:=iR (S:=m3.size::a1.size::S) RA.mono (m2:=m2) (m3:=m3) (m4:=m4) (m5:=m5) rfl rfl rfl
 clear_value m5
 have oC:∀c∈[a1.size,m.size],c<m2.size:=λc hc=>x3.lt (hl c hc)
 have i1:=oC a1.size az
 have z2:=u2.size
 have A0:uy (m3.size::a1.size::S) m2 m5 dd (.mk m2.size 0 0 0) ds []:=⟨Hy.le (x5.aY λb hb=>by
  simp only[Ks,aGx,aGp,aF0]at hb;rcases hb with e|e|e
  ·exact Or.inr (by rw[e];exact aFR _)
  ·exact Or.inr ab
  ·exact Or.inl (List.mem_cons.2 e)),g0,az,az,λb hb=>by
   simp only[aF0]at hb;rcases hb with e|e|e
   ·omega
   ·omega
   ·have:=hS b e;omega,λhc=>by
   simp only[aF0]at hc;rcases hc with e|e|e
   ·simp at e;omega
   ·simp at e;omega
   ·have:=hS _ e;simp at this;omega,az⟩
 refine dg (n:=ps.length) ab (λk M=>af m2 M/\∃s l,uy (m3.size::a1.size::S) m2 M dd s ds l/\bK M m3.size tf [.s dd,.s s]/\l.map (·.1)=ps.take k) ⟨x5,_,[],A0,B0,rfl⟩ ?_
 rintro k M I μ hk ⟨xM,st,l,A,B,BP⟩ next
 have zM:=xM.size
 refine⟨λh=>?_,λh=>?_⟩
 ·simp only[aFP]at h
  obtain⟨q,hq⟩:=ae (l:=ps) (k:=k) ab
  have Uk:=lx.cq q (ak hq)
  have q3:=Uk.params;have q4:=Uk.bX;have qf:=Uk.lZ
  have v6:=u2.trans xM
  obtain⟨a,b,c,c1,c2,c3,e0,e1,e2,e3,e4⟩:=hp.aE hq
  have G:∀{v:Value}{b o:Nat},ad m b o=some v->ad M b o=some v:=λh=>v6.ad h
  refine⟨ab,ab,_,G e0,_,G e1,_,G e2,_,G e3,_,G e4,?_⟩
  intro m7 m8
  obtain⟨x8,-,s8⟩:=iA (M:=M) (m1:=m7) (m2:=m8) rfl rfl rfl
  clear_value m8
  have mG:∀c∈[M.size,a1.size,m.size],c<m8.size:=λc hc=>by
   rcases List.mem_cons.1 hc with e|e
   ·omega
   ·have:=oC c e;omega
  have w8:=v6.trans x8
  have hT:∀{M':ah},M.size<=M'.size->∀c∈st.ao::(Ks l++(m3.size::a1.size::S)),c<M'.size:=λh c hc=>by
   rcases List.mem_cons.1 hc with e|e
   ·have:=A.g.aN;omega
   ·rcases List.mem_append.1 e with e|e
    ·obtain⟨y,hy,rfl⟩:=List.mem_map.1 e;have:=(A.c y hy).aN;omega
    ·have:=A.lt c e;omega
  intro m9
  have x9:af m8 m9:=af.push _ _
  have gk0:Gr (st.ao::(Ks l++(m3.size::a1.size::S))) m8 m9 cI 6 cD (.mk m8.size 0 0 0) []:=Gr.new _ (aFR _) _ _ _
  clear_value m9
  have pt:=c3.len
  refine cN (n:=q.bP.length) (pt▸c3.eP) (λj ks M2=>af m8 M2/\Gr (st.ao::(Ks l++(m3.size::a1.size::S))) m8 M2 cI 6 cD ks (q.bP.take j)) ⟨x9,gk0⟩ ?_
  rintro j ks M2 I2 μ2 hj ⟨LC,gk⟩ eN
  have X2:=w8.trans LC
  have z2:=LC.size
  have hlM:∀c∈[M.size,a1.size,m.size],c<M2.size:=λc hc=>LC.lt (mG c hc)
  refine⟨λh2=>?_,λh2=>?_⟩
  ·simp only[aFP]at h2
   obtain⟨x,hx⟩:=ae (l:=q.bP) (k:=j) ab
   obtain⟨pa,pj,ha,hjj,g0',g1',g2',g3',g4',g5'⟩:=(dq.ext X2 c3).aE hx
   have yk:=gk.aN
   refine⟨ab,ab,_,g0',_,g1',_,g2',_,g3',_,g4',_,g5',?_⟩
   refine(ur (S:=ks.ao::st.ao::(Ks l++(m3.size::a1.size::S))) (λc hc=>?_) ha hjj (Uk.fY x (ak hx))).mono λv dm⟨a',j',e,FH,NB,eB⟩=>⟨λc hc=>eB.same c (hlM c hc),_,_,_,_,_,_,e,?_⟩
   ·rcases List.mem_cons.1 hc with e|e
    ·omega
    ·exact hT ab c e
   intro df
   refine Gr.iN (zs:=[.i 0,.i 0,.i 0,.i 0,.s .nil,.s .nil]) (a:=x) cD.mono aO (gk.ext cD.mono eB) ((LC.trans eB).fz []) ⟨a',j',rfl,FH,NB⟩ bg λr M3 g3 f3 z3 q3'=>⟨af.me ((LC.trans eB).aC _) f3.ext mG,eN ab _ _ ⟨f3.ext,?_⟩⟩
   rw[bn hx];exact g3
  ·simp only[aFQ]at h2
   rw[bL ab]at gk
   have E:∀{M1 M2:ah},af m8 M1->af M1 M2->∀b,b<m8.size->∀o,ad M2 b o=ad M1 b o:=λh h' b hb o=>aA (h'.same b (h.lt hb)) o
   have i0:M.size<m8.size:=ab
   have i2:m3.size<m8.size:=aFY B.lt x8.size
   refine⟨st,(B.ext (x8.trans LC)).bH 1,?_⟩
   refine(ba [] (c1.ext X2) ab).ay LC mG λa' _ gK ga e eU ZM=>⟨_,rfl,E LC eU _ i0 _,E LC eU _ i0 _,E LC eU _ i0 _,E LC eU _ i2 _,?_⟩
   subst e
   refine(ba [] (c2.ext (w8.trans ZM)) ab).ay ZM mG λb' _ kT gb e lp Y3=>⟨_,rfl,E ZM lp _ i0 _,E ZM lp _ i0 _,E ZM lp _ i2 _,?_⟩
   subst e
   intro pV
   have Sx:=ZM.size
   have MI:=Y3.size
   have yk:=gk.aN
   have hT':∀{M':ah},M2.size<=M'.size->∀c∈ks.ao::st.ao::(Ks l++(m3.size::a1.size::S)),c<M'.size:=λh c hc=>by
    rcases List.mem_cons.1 hc with e|e
    ·omega
    ·exact hT ab c e
   have FH:aj (aY (ks.ao::st.ao::(Ks l++(m3.size::a1.size::S))) kT) a' q.params:=(GI.done (GI.any ga) (hT' (aFR _)) ab).le (lp.bO _)
   have jx:aj (aY (ks.ao::st.ao::(Ks l++(m3.size::a1.size::S))) kT) b' q.bX:=GI.done (GI.any gb) (hT' eU.size) ab
   have ll:l.length=k:=by have:=aHB List.length BP;simp at this;omega
   have yq:=A.g.aN
   exact A.xI (i:=1) (bc:=[.s dd,.s st]) (tb:=tf) (p:=⟨q.params,q.bX,q.aH,q.an,q.bP⟩) (L:=[M.size,a1.size,m.size]) (x8.trans Y3) (gk.ext cD.mono (eU.trans lp)) ab FH jx B az aO ⟨ab,az⟩ (λc hc=>by
    have hn:=A.nq;simp only[aF0,aHO]at hc hn;have:=x8.size;have:=B.lt;rcases hc with e|e|e|e
    ·omega
    ·omega
    ·omega
    ·simp at e) ab xM λr m' A' B' x'=>next ab m' ⟨x',r,_,A',B',by rw[bn hq,aGz,BP];rfl⟩
 ·simp only[aFQ]at h
  refine⟨dd,B.bH 0,st,B.bH 1,?_⟩
  intro M'
  rw[bL ab]at BP
  have f:Fz [a1.size] M M':=(Fz.av _ M).ag (Or.inl az) _ _
  exact⟨dd,st,l,rfl,A.re f az (λb hb=>⟨Or.inl (by simp[hb]),by have:=hS b hb;have:=f.size;omega⟩) u2.size,BP,(u2.trans xM).ag ab _ _⟩
section
theorem Qg{α:Type}{l:List α}{f:Nat}{x:α}(h:l[f]? =some x):l.set f x=l:=by
 apply aGC;intro i;rw[aGR];split
 ·next e=>
  subst e;rw[h];split
  ·rfl
  ·next hi=>exact absurd (ap h) hi
 ·rfl
section
variable{S L B X:List Nat}{m0 m M:ah}{dd q bs:Sl}{ds:List aS}{l:List (bY×Sl)}{rb Q f k:Nat}{x:bY×Sl}
theorem BS.psh(h:BS B rb bs m Q M)(o:Obj):BS (M.size::B) rb bs m Q (M.push o):=⟨h.s.ext (af.push M o),λc hc=>by
 have z:=h.s.f.size;rw[Array.size_push];rcases List.mem_cons.1 hc with e|e
 ·omega
 ·have:=h.dX c e;omega⟩
theorem uy.lZ(h:Dc (l.map (·.1)))(hx:x∈l):W3 x.1:=h.cq x.1 (List.mem_map.2 ⟨x,hx,rfl⟩)
theorem uy.len(h:uy S m0 M dd q ds l):q.len=l.length:=by have:=h.g.len aO;simpa using this
theorem uy.iu(h:uy S m0 M dd q ds l)(hl:l.length<=1000)(hx:l[f]? =some x):∃a b:Sl,ad M q.ao (q.off+f*5)=some (Sl.v a)/\ad M q.ao (q.off+f*5+1)=some (Sl.v b)/\ad M q.ao (q.off+f*5+2)=some (vi x.1.aH)/\ad M q.ao (q.off+f*5+3)=some (vi x.1.an)/\ad M q.ao (q.off+f*5+4)=some (Sl.v x.2)/\aj (aY (q.ao::S) M) a x.1.params/\aj (aY (q.ao::S) M) b x.1.bX:=by
 obtain⟨n,css,o,r⟩:=h.g;have hf:=ap hx;have hc:f<css.length:=by have:=r.len;simp at this;omega
 obtain⟨cs,kJ⟩:=ae hc;obtain⟨a,b,e,h1,h2⟩:=r.cq f cs (hd x) kJ (by simp[hx]);have iu:=o.iu;have w:Le (aY (q.ao::(Ks l++S)) M) (aY (q.ao::S) M):=eY M λb hb=>by rcases List.mem_cons.1 hb with e|e<;>simp[e]
 have aE:∀i c,cs[i]? =some c->ad M q.ao (q.off+f*5+i)=some c.v:=λi c hi=>by
  have:=iu (f*5+i) c (fy r.size kJ hi);rwa[<-aGm]at this
 subst e;exact⟨a,b,aE 0 _ rfl,aE 1 _ rfl,aE 2 _ rfl,aE 3 _ rfl,aE 4 _ rfl,h1.le w,h2.le w⟩
theorem uy.it(h:uy S m0 M dd q ds l)(hl:l.length<=1000)(hc:∀x∈l,x.1.bP.length<=1000000000000):IT (aY S M) dd q (ds,l.map (·.1)):=
 ⟨h.d.le (eY M λb hb=>by simp[hb]),(h.gr hc).lB jc.mono h.nq aO (by simp only[aGy];omega)⟩
theorem uy.ape(h:uy S m0 M dd q ds l)(hf:Fz X m0 M)(hl:l.length<=1000)(hc:∀x∈l,x.1.bP.length<=1000000000000)(hk:k<l.length){cs:List Ce}{p:bY}(hp:jc (aY (q.ao::S) M) cs p):
 dW M q.ao (q.off+k*5) 5/\∃ps,IT (aY S (ag M q.ao (q.off+k*5) cs)) dd q (ds,ps):=by
 obtain⟨w,g,-,-⟩:=(h.gr hc).set jc.mono hf (k:=k) (by simpa using hk) hp
 have F:Fz [q.ao] M (ag M q.ao (q.off+k*5) cs):=(Fz.av _ M).ag (Or.inl az) _ _
 exact⟨w,_,h.d.le (F.aY (λb hb=>by simp at hb;simp[hb]) λb hb=>Or.inl (by simp[hb])),g.lB jc.mono h.nq aO bg⟩
theorem uy.wr(h:uy S m0 M dd q ds l)(hf:Fz X m0 M)(hx:l[f]? =some x)(hk:k<x.1.bP.length){cs:List Ce}{y:Instr}(hy:cD (aY (q.ao::(Ks l++S)) M) cs y):
 dW M x.2.ao (x.2.off+k*6) 6/\uy S m0 (ag M x.2.ao (x.2.off+k*6) cs) dd q ds (l.set f ({x.1 with bP:=x.1.bP.set k y},x.2)):=by
 have hm:=ak hx
 have hxk:x.2.ao∈Ks l:=List.mem_map.2 ⟨x,hm,rfl⟩
 have sub:∀b∈x.2.ao::q.ao::(Ks l++S),b∈q.ao::(Ks l++S):=λb hb=>by
  rcases List.mem_cons.1 hb with e|e
  ·rw[e];exact aFT _ (aF7 _ hxk)
  ·exact e
 obtain⟨w,g,-,fr⟩:=(h.c x hm).set cD.mono hf hk (cD.le (eY M sub) hy)
 have F:Fz [x.2.ao] M (ag M x.2.ao (x.2.off+k*6) cs):=(Fz.av _ M).ag (Or.inl az) _ _
 have mY:∀b∈[x.2.ao],b∈Ks l++S:=λb hb=>by simp at hb;rw[hb];exact aF7 _ hxk
 have kk:Ks (l.set f ({x.1 with bP:=x.1.bP.set k y},x.2))=Ks l:=by
  simp only[Ks,aHE];exact Qg (by simp[hx])
 have hh:(l.set f ({x.1 with bP:=x.1.bP.set k y},x.2)).map hd=l.map hd:=by
  rw[aHE];exact Qg (by simp[hx,hd])
 have cc:∀z∈l.set f ({x.1 with bP:=x.1.bP.set k y},x.2),z=({x.1 with bP:=x.1.bP.set k y},x.2)\/z∈l/\z.2.ao≠x.2.ao:=λz hz=>by
  obtain⟨j,hj⟩:=List.mem_iff_getElem?.1 hz;rw[aGR]at hj;split at hj
  ·split at hj
   ·exact Or.inl (by simpa using hj.symm)
   ·simp at hj
  ·next cx=>
   refine Or.inr ⟨ak hj,λe=>cx ?_⟩;have cA:f<(Ks l).length:=by simpa[Ks]using ap hx
   exact(List.getElem?_inj cA h.nd).1 (by simp[Ks,hx,hj,e])
 refine⟨w,?_,?_,λz hz=>?_,by rw[kk];exact h.nd,λb hb=>by rw[aq];exact h.lt b hb,h.nq,λz hz=>?_⟩
 ·rw[kk];exact h.d.le (F.bO λb hb=>aFT _ (mY b hb))
 ·rw[kk,hh];exact h.g.Nb RA.mono F mY (by simp;exactλe=>h.kq x hm e.symm)
 ·rw[kk]
  rcases cc z hz with e|⟨e,e'⟩
  ·rw[e];exact g
  ·exact(h.c z e).Nb cD.mono F (λb hb=>aFT _ (mY b hb)) (by simpa using e')
 ·rcases cc z hz with e|⟨e,e'⟩
  ·rw[e];exact h.nc x hm
  ·exact h.nc z e
end
theorem aau{ps:List bY}(h:Dc ps){f k:Nat}{p:bY}{x y:Instr}(hf:ps[f]? =some p)(hk:p.bP[k]? =some x)(hb:Xh x y):Dc (ps.set f {p with bP:=p.bP.set k y}):=by
 have hp:=h.cq p (ak hf);refine⟨by simpa using h.eZ,by simpa using h.lZ,λq hq=>?_⟩;rcases aGd hq with e|e
 ·exact h.cq q e
 ·subst e;refine⟨hp.params,hp.bX,by simpa using hp.eZ,by simpa using hp.lZ,λj z hz=>?_,λz hz=>?_⟩
  ·simp only[aGR]at hz;split at hz
   ·next e=>
    subst e;split at hz
    ·simp at hz;subst hz;exact hb.1 _ (hp.bP _ _ hk)
    ·simp at hz
   ·exact hp.bP _ _ hz
  ·rcases aGd hz with e|e
   ·exact hp.fY z e
   ·rw[e];exact hb.2
section
variable{S:List Nat}{m:ah}{rb P:Nat}{bs:Sl}
theorem Hg(hS:∀c∈S,c<m.size)(dx:rb∈S)(h0:Rd rb bs P m)(hP:P+100<=10000000000000000){d p:Sl}{x:List aS×List bY}(t:IT (aY S m) d p x)(u:UI x):aD Tryz.prog 35 [vp rb 0,.agg #[Sl.v d,Sl.v p]] m (PP IT UI S rb bs m (P+11)):=by
 apply xQ (rb,0);simp -zeta only[aw,ax];have hr:=h0.lt;intro m1 m2;have b2:BS [m1.size,m.size] rb bs m P m2:=BS.psh (BS.jm (S:=S) h0 _).1 _;have x2:af m m2:=(af.push m _).trans (af.push m1 _);clear_value m2;refine(uz (b2.hS hS) ((t.1.le (aV _ _)).ext x2) (rq u.2) (cY.mono (eV.le (aV _ _) t.2) x2 λ_ _=>jc.le x2.le) u.1).mono λ_ m3⟨dd,q,l,e,A,hl,x3⟩=>⟨(b2.lw hr λ_ h=>h).cg (x3.fz _),dd,q,e,?_⟩;have b3:=b2.to (x3.fz _) (b2.s.r.ext x3);intro m4 m5;obtain⟨b5,-,-⟩:=b3.box (S:=S) (m1:=m4) (m2:=m5) rfl rfl rfl;obtain⟨x5,-,-⟩:=iA (M:=m3) (m1:=m4) (m2:=m5) rfl rfl rfl;clear_value m5;have A5:uy ([m3.size,m1.size,m.size]++S) m m5 dd q x.1 l:=A.re (x5.fz []) az (λb hb=>⟨by
  rcases List.mem_cons.1 hb with e|e
  ·exact Or.inr ab
  ·exact Or.inl e,b5.hS hS b hb⟩) x2.size
 refine b5.pick hr ab (λ_ h=>h) 2 λi m6 i0 i1 b6 f6=>?_;have hB:∀b∈[rb],b∈[m3.size,m1.size,m.size]++S:=by simp[dx]
 have to:∀{M M':ah}{l:List (bY×Sl)},uy ([m3.size,m1.size,m.size]++S) m M dd q x.1 l->Fz [rb] M M'->uy ([m3.size,m1.size,m.size]++S) m M' dd q x.1 l:=λh f=>h.re f hB (λb hb=>⟨Or.inl hb,aFY (h.lt b hb) f.size⟩) (aFR _);refine⟨λn M=>∃k:Nat,n=k/\k<=2/\BS [m3.size,m1.size,m.size] rb bs m (P+11 -5*k) M/\∃l,uy ([m3.size,m1.size,m.size]++S) m M dd q x.1 l/\Dc (l.map (·.1)),λn _=>n.toNat,⟨(i+1).toNat,by rw[aF ab ab];omega,ab,⟨⟨b6.s.f,b6.s.r.mono ab⟩,b6.dX⟩,l,to A5 f6,hl▸u.1⟩,?_⟩;rintro n M ⟨k,rfl,hk,b,l,A,ok⟩;refine⟨λh=>?_,λ_=>b.fG IT.mn h0 az (x:=(x.1,l.map (·.1))) (A.it (by have:=ok.lZ;simp at this;omega) λy hy=>(uy.lZ ok hy).lZ) ⟨ok,u.2⟩ ab _⟩;simp only[aHn,aFP]at h;have hlen:=A.len;have l4:l.length<=4:=by simpa using ok.lZ
 have l0:0<l.length:=by simpa using ok.eZ
 refine b.pick hr ab (λ_ h=>h) (q.len:Int) λf m7 f0 f1 b7 f7=>?_;have A7:=to A f7;obtain⟨y,hy⟩:=ae (l:=l) (k:=f.toNat) ab;obtain⟨-,-,-,-,-,-,g7,-,-⟩:=A7.iu ab hy;have py:=uy.lZ ok (ak hy);have c7:=A7.bP (ak hy) py.lZ;have pt:=c7.len;have LN:=py.eZ;refine⟨f0,ab,y.2,g7,b7.pick hr ab (λ_ h=>h) (y.2.len:Int) λj m8 j0 j1 b8 f8=>?_⟩;have A8:=to A7 f8;obtain⟨-,-,-,-,-,-,g8,-,-⟩:=A8.iu ab hy;have c8:=A8.bP (ak hy) py.lZ;obtain⟨z,hz⟩:=ae (l:=y.1.bP) (k:=j.toNat) ab;obtain⟨a,jj,ha,hj,e0,e1,e2,e3,e4,e5⟩:=c8.aE hz;have dX:∀{b o:Nat}{v:Value},ad (aY (q.ao::([m3.size,m1.size,m.size]++S)) m8) b o=some v->ad m8 b o=some v:=λh=>(cT.1 h).2;refine⟨f0,ab,y.2,g8,f0,ab,y.2,g8,j0,ab,_,dX e0,_,dX e1,_,dX e2,_,dX e3,_,dX e4,_,dX e5,?_⟩;have hZ:∀c∈q.ao::(Ks l++([m3.size,m1.size,m.size]++S)),c<m8.size:=λc hc=>by
  rcases List.mem_cons.1 hc with e|e
  ·rw[e];exact A8.g.aN.2
  ·rcases List.mem_append.1 e with e|e
   ·obtain⟨w,hw,rfl⟩:=List.mem_map.1 e;exact(A8.c w hw).aN.2
   ·exact A8.lt c e
 refine(Hf hZ b8.s.r ab (ha.le (eY _ (by simp[dx]))) (hj.le (aV _ _)) (py.fY z (ak hz)) ⟨_,py.bP _ _ hz⟩).mono λ_ m9⟨z',a',j',e,FH,NB,hb,r9,f9⟩=>⟨(b8.lw hr λ_ h=>h).cg f9,_,_,_,_,_,_,e,?_⟩;have A9:=to A8 f9;have b9:=b8.to f9 r9;obtain⟨w,A10⟩:=A9.wr b9.s.f hy (ap hz) (cs:=[.i z'.op,.i z'.dst,.i z'.bh,.i z'.bA,.s a',.s j']) (y:=z') ⟨a',j',rfl,FH,NB⟩;have yc:=(A9.c y (ak hy)).aN;have ny:=A9.nc y (ak hy);have kg':∀o b,b∈q.ao::([m3.size,m1.size,m.size]++S)->b≠rb->ad m9 b o=ad m8 b o:=λo b hb hn=>aA (f9.same b (hZ b ((List.mem_cons.1 hb).elim (λe=>by simp[e]) λe=>aFT _ (aGu _ e))) (by simpa using hn)) o;have yq:=A9.g.aN;have hk3:=b9.dX m3.size az;refine⟨kg' _ _ az ab,kg' _ _ az ab,j0,ab,w,λb hb=>aP _ _ _ _ λe=>ny (by rw[<-e];exact aF7 _ hb),⟨k -1,?_,ab,⟨⟨b9.s.f.ag (Or.inr ab) _ _,(h0.ag b9.s.r b9.s.f ab _ _).mono ab⟩,λc hc=>by rw[aq];exact b9.dX c hc⟩,_,A10,?_⟩,?_⟩
 ·rw[aF ab ab];omega
 ·rw[aHE];exact aau ok (by simp[hy]) hz hb
 ·rw[aF ab ab];show((k:Int) -1).toNat<(k:Int).toNat;omega
end
end
theorem BI.jm{L:List Nat}{a0 m M:ah}{rb k Q:Nat}{bs a j:Sl}{l l':List Int}(h:BI a0 k rb bs m Q M a j l l')(h0:rb<m.size)(hQ:Q<=10000000000000000)(hL:∀b∈L,m.size<=b/\b<=k)(ls:List Int){cs:List Ce}{n:Nat}(kJ:cs=ls.map Ce.i)(hn:n=ls.length)(hl:0<ls.length/\ls.length<=100){K:Int->ah->Prop}
 (hk:∀t M',BI a0 k rb bs m (Q+1) M' a j l l'->K t M'):aD Tryz.prog 40 [vp rb 0,Sl.v (.mk M.size 0 n n)] (M.push (.cells (aU cs) au)) λv M'=>da L (M.push (.cells (aU cs) au)) M'/\∃t:Int,v=vi t/\K t M':=
 have:=h.hi
 have x:=af.push M (.cells (aU cs) au)
 have z:=x.size
 (zl h.s hQ ls kJ hn hl).mono λ_ M'⟨t,e,_,r,f⟩=>⟨f.cg λb hb=>by have:=hL b hb;simp only[aG1];omega,t,e,hk t M' ((h.to h0 (x.fz _) (h.s.r.ext x)).to h0 f r.r)⟩
theorem EN{Z:List Nat}{m:ah}{rb P:Nat}{bs a j:Sl}{x:Instr}(hZ:∀c∈Z,c<m.size)(h0:Rd rb bs P m)(hP:P+20<=10000000000000000)(ha:aj m a x.args)(hj:aj m j x.cW)(hb:x.args.length<=1000000000000/\x.cW.length<=1000000000000):
 aD Tryz.prog 67 [vp rb 0,inV x a j] m (IX Z rb bs m (P+4) λ_=>True):=by
 apply wG (rb,0)
 simp(config:={maxSteps:=1000000}) -zeta only[aw,ax]
 have hr:=h0.lt
 intro m1 m2
 obtain⟨x2,hl⟩:=cv (m1:=m1) (m2:=m2) rfl rfl
 have s1:m1.size=m.size+1:=by simp[m1]
 have s2:m2.size=m.size+2:=by simp[m2,s1]
 clear_value m2
 clear_value m1
 refine(ux [] (ha.ext x2) (hj.ext x2) hb).mono λ_ m3⟨a',j',e,ga,gj,cx,x3⟩=>⟨x3.cg hl,_,_,_,_,_,_,e,?_⟩
 intro m4 m5
 obtain⟨x5,-,z5⟩:=iA (M:=m3) (m1:=m4) (m2:=m5) rfl rfl rfl
 clear_value m5
 have ya:=ga.aN;have yj:=gj.aN
 have X5:=(x2.trans x3).trans x5
 have b5:BI m2 m3.size rb bs m P m5 a' j' x.args x.cW:=⟨ga.ext x5,gj.ext x5,cx,⟨X5.fz _,h0.ext X5⟩,⟨ab,aHf hb.1,aHf hb.2⟩,ab,ab,ab,ab⟩
 have hL:∀b∈[m3.size,m1.size,m.size],m.size<=b/\b<=m3.size:=bg
 refine b5.pick hr ab hL 6 λi m6 _ _ b6 _ f6=>?_
 have y6:=b6.hi
 have sp:∀{s:Sl}{l:List Int},GI [] m2 m6 s l->l.length<=1000000000000->aD Tryz.prog 41 [vp rb 0,Sl.v s] m6 λv m7=>da [m3.size,m1.size,m.size] m6 m7/\∃s',v=Sl.v s'/\∃l',GI [] m6 m7 s' l'/\l'.length<=1000000000001/\Rd rb bs (P+4) m7/\Fz [rb] m6 m7:=λg hl=>
  (ou b6.s.r ab (aj.le (aV _ _) (g.done az hl)) hl).mono λ_ m7⟨s',l',e,g',BP,_,r7,f7⟩=>⟨f7.cg λb hb=>by have:=hL b hb;simp only[aG1];omega,s',e,l',g',ab,r7,f7⟩
 refine⟨λ_=>b6.pick hr ab hL 26 λv m8 _ _ b8 _ _=>(b8.put h0 _ _).fG h0 hZ s1 ab trivial _,λ_=>⟨λ_=>b6.jm hr ab hL [0,1,-1,99] rfl rfl az λv m8 b8=>(b8.put h0 _ _).fG h0 hZ s1 ab trivial _,λ_=>⟨λ_=>b6.jm hr ab hL [0,1,5,-1,1000,2000] rfl rfl az λv m8 b8=>(b8.put h0 _ _).fG h0 hZ s1 ab trivial _,λ_=>⟨λ_=>b6.jm hr ab hL [0,1,-1,99] rfl rfl az λv m8 b8=>(b8.put h0 _ _).fG h0 hZ s1 ab trivial _,λ_=>⟨λ_=>?_,λ_=>⟨λ_=>?_,λ_=>b6.fG h0 hZ s1 ab trivial _⟩⟩⟩⟩⟩⟩
 ·refine(sp b6.ga hb.1).mono λ_ m7⟨s,s',e,l',g,BP,r7,f7⟩=>⟨s,s',e,?_⟩
  have y:=g.aN
  have z:=b6.s.f.size
  have b7:=b6.to hr f7 r7
  have b8:BI m2 m3.size rb bs m (P+4) m7 s' j' l' x.cW:=⟨g.bN az ab,b7.gj,by have:=gj.aN;omega,b7.s,⟨ab,BP,b6.lo.2.2⟩,ab,ab,b7.hi.2.2⟩
  exact(b8.put h0 _ _).fG h0 hZ s1 ab trivial _
 ·refine(sp b6.gj hb.2).mono λ_ m7⟨s,s',e,l',g,BP,r7,f7⟩=>⟨s,s',e,?_⟩
  have y:=g.aN
  have z:=b6.s.f.size
  have b7:=b6.to hr f7 r7
  have b8:BI m2 m3.size rb bs m (P+4) m7 a' s' x.args l':=⟨b7.ga,g.bN az ab,ab,b7.s,⟨ab,b6.lo.2.1,BP⟩,ab,ab,b7.hi.2.2⟩
  exact(b8.put h0 _ _).fG h0 hZ s1 ab trivial _
end Go.Proofs.YtakpkjhmbbfniaaGreat
