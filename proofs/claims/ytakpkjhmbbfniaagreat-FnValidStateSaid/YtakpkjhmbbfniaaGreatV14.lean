/- Part of a proof, joined by a program. -/
import Derived.Test.YtakpkjhmbbfniaaGreatV13
set_option linter.unusedVariables false
set_option linter.unusedSimpArgs false
set_option linter.defProp false
set_option maxHeartbeats 8000000
set_option maxRecDepth 100000
namespace Go.Proofs.YtakpkjhmbbfniaaGreat
open Go.Vc
section
structure HX(S:List Nat)(ds:List aS)(nf a:Nat)(M:ah)(s:Sl)(e:Ex):Prop where
 sl:dC (aY S M) s e.aW
 wx:WX ds nf a e
structure Rs(rb:Nat)(bs:Sl)(m:ah)(Q:Nat)(M:ah):Prop where
 f:Fz [rb] m M
 r:Rd rb bs Q M
section
variable{S L:List Nat}{rb Q Q' P0 k a nf:Nat}{bs d p s w:Sl}{ds:List aS}{fs:List bY}{m M M':ah}{e:Ex}{v:List Int}{K:Int->Int->Sl->ah->Prop}
theorem HX.fz(h:HX S ds nf a M s e)(dx:rb∈S)(f:Fz [rb] M M'):HX S ds nf a M' s e:=⟨dC.le (f.bO (by simp[dx])) h.sl,h.wx⟩
theorem HX.ext(h:HX S ds nf a M s e)(x:af M M'):HX S ds nf a M' s e:=⟨dC.le (x.bO _) h.sl,h.wx⟩
theorem HX.dY(h:HX S ds nf a M s e)(x:af M M')(hk:M.size<=k):HX (k::S) ds nf a M' s e:=⟨dC.le (x.aY λb hb=>(List.mem_cons.1 hb).elim (λh=>Or.inr ab) Or.inl) h.sl,h.wx⟩
theorem HX.eE(h:HX (k::S) ds nf a M s e):HX S ds nf a M s e:=⟨dC.le (eY M λ_=>aFT _) h.sl,h.wx⟩
theorem HX.put(h:HX S ds nf a M s e)(hk:k∈S)(o:Nat)(l:List Ce):HX S ds nf a (ag M k o l) s e:=⟨dC.le (bt hk λ_ h=>h) h.sl,h.wx⟩
theorem Rs.ext(h:Rs rb bs m Q M)(x:af M M'):Rs rb bs m Q M':=⟨h.f.then x,h.r.ext x⟩
theorem Rs.to(h:Rs rb bs m Q M)(f:Fz [rb] M M')(r:Rd rb bs Q' M'):Rs rb bs m Q' M':=⟨h.f.trans f,r⟩
theorem Rs.put(h:Rs rb bs m Q M)(h0:Rd rb bs P0 m)(hk:m.size<=k)(o:Nat)(l:List Ce):Rs rb bs m Q (ag M k o l):=⟨h.f.ag (Or.inr hk) _ _,h0.ag h.r h.f hk o l⟩
theorem lw(h:rb<m.size)(hL:∀b∈L,m.size<=b/\b<M.size):Lw rb L M:=λb hb=>⟨(hL b hb).2,by have:=(hL b hb).1;omega⟩
theorem kg(f:Fz [rb] M M')(h:rb<m.size)(hk:m.size<=k/\k<M.size)(o:Nat):ad M' k o=ad M k o:=aA (f.same k hk.2 bg) o
theorem iA{m1 m2:ah}{z l:List Ce}{t:Nat}(h1:m1=M.push (.cells (aU z) t))(h2:m2=ag m1 M.size 0 l)(hl:l.length=z.length):af M m2/\bK m2 M.size t l/\m2.size=M.size+1:=by
 subst h1 h2;refine⟨(af.push M _).ag (aFR _) _ _,?_,by rw[aq];simp⟩;have h:=bK.ag (m:=M.push (.cells (aU z) t)) (b:=M.size) (e:=t) (l:=z) (o:=0) (r:=l) (bK.push _ _ _);rwa[show fP z 0 l=l from by
  have h:=zQ [] l z ab;rw[aHy ab]at h;simpa using h]at h
theorem XP.kk{f:Nat}{args:List Value}{T:Ex->Prop}(h:aD Tryz.prog f args M (XP S rb bs M Q T))(hL:Lw rb L M)(hk:∀s e M',dC (aY S M') s e.aW->T e->Rd rb bs Q M'->Fz [rb] M M'->K e.op e.bh s M'):aD Tryz.prog f args M λv M'=>da L M M'/\∃r0 r1:Int,∃r2:Sl,v=.agg #[vi r0,vi r1,Sl.v r2]/\K r0 r1 r2 M':=
 XP.then h hL λs e M' a b c d=>⟨_,_,_,rfl,hk s e M' a b c d⟩
theorem uv(S:List Nat)(ds:List aS)(nf:Nat)(hL:Lw rb L M){n:Int}(hn:0<=n/\n<(a:Int))(hk:∀s M',HX S ds nf a M' s (.mk 12 n [])->af M M'->K 12 n s M'):aD Tryz.prog 245 [vi n] M λv M'=>da L M M'/\∃r0 r1:Int,∃r2:Sl,v=.agg #[vi r0,vi r1,Sl.v r2]/\K r0 r1 r2 M':=
 (jF S n M).mono λv M'⟨s,e,h1,h2,h3,x⟩=>⟨hL.cg (x.fz _),by subst h3;exact⟨_,_,_,h1,hk s M' ⟨h2,.Xc hn⟩ x⟩⟩
theorem HZ(S:List Nat)(ds:List aS)(nf a:Nat)(hL:Lw rb L M)(n:Int)(hk:∀s M',HX S ds nf a M' s (.mk 0 n [])->af M M'->K 0 n s M'):aD Tryz.prog 210 [vi n] M λv M'=>da L M M'/\∃r0 r1:Int,∃r2:Sl,v=.agg #[vi r0,vi r1,Sl.v r2]/\K r0 r1 r2 M':=
 (zg S n M).mono λv M'⟨s,e,h1,h2,h3,x⟩=>⟨hL.cg (x.fz _),by subst h3;exact⟨_,_,_,h1,hk s M' ⟨h2,.int n⟩ x⟩⟩
theorem mE(l:List (Ex×Sl))(hl:l.length<=1000)(hS:∀c∈S,c<M.size)(h:∀x∈l,dC (aY S M) x.2 x.1.aW){cs:List Ce}{n:Nat}(kJ:cs=l.flatMap λx=>[.i x.1.op,.i x.1.bh,.s x.2])(hn:n=l.length):dC (aY S (M.push (.cells (aU cs) aX))) (.mk M.size 0 n n) (l.map (·.1)):=
 (KG hS 0 l hl h kJ hn).done zR.mono hS aO bg
theorem fS{aW:List Ex}(h:dC (aY S M) s aW){op bh:Int}(hw:WX ds nf a (.mk op bh aW))(hL:Lw rb L M)(hk:∀s M',HX S ds nf a M' s (.mk op bh aW)->af M M'->K op bh s M'):
 aD Tryz.prog 243 [vi op,vi bh,Sl.v s] M λv M'=>da L M M'/\∃r0 r1:Int,∃r2:Sl,v=.agg #[vi r0,vi r1,Sl.v r2]/\K r0 r1 r2 M':=
 (HW h op bh).mono λv M'⟨s,e,h1,h2,h3,x⟩=>⟨hL.cg (x.fz _),by subst h3;exact⟨_,_,_,h1,hk s M' ⟨h2,hw⟩ x⟩⟩
theorem EM(hS:∀c∈S,c<M.size)(dx:rb∈S)(c:GC rb bs Q d p ds fs M)(hQ:Q+Cg 18<=10000000000000000)(hv:IR rb M w v)(Vl:v.length<=100){t b:Int}(ht:Ty ds t)(hb:0<=b/\b<=18)(hL:Lw rb L M)(hk:∀e s M',HX S ds fs.length v.length M' s e->Rd rb bs (Q+Cg 18) M'->Fz [rb] M M'->K e.op e.bh s M'):
 aD Tryz.prog 242 [vp rb 0,.agg #[Sl.v d,Sl.v p],Sl.v w,vi t,vi b] M λv M'=>da L M M'/\∃r0 r1:Int,∃r2:Sl,v=.agg #[vi r0,vi r1,Sl.v r2]/\K r0 r1 r2 M':=
 have hm:=sR hb.2
 XP.kk (RZ _ b rfl ⟨hb.1,ab⟩ S rb Q bs d p w M v t hS dx c ab hv ab ht) hL λs e M' h1 h2 h3 h4=>hk e s M' ⟨h1,h2.1⟩ (h3.mono ab) h4
end
end
section
theorem WX.Pc{ds:List aS}{nf a:Nat}{n:Int}{aW:List Ex}(h:∀e∈aW,WX ds nf a e):WX ds nf a (.mk 6 n aW):=.db aO (λh=>ab) aO (λh=>ab) h
section
variable{S:List Nat}{rb P:Nat}{bs d p:Sl}{ds:List aS}{fs:List bY}{m:ah}
theorem KI(ds:List aS)(nf:Nat)(hS:∀c∈S,c<m.size)(dx:rb∈S)(h0:Rd rb bs P m)(hP:P+100<=10000000000000000)(t:Int):aD Tryz.prog 244 [vp rb 0,vi t] m (XP S rb bs m (P+100) (WX ds nf 0)):=by
 apply CA (rb,0);simp -zeta only[aw,ax];intro m1 m2;have x2:af m m2:=(af.push m _).trans (af.push m1 _);have s2:m2.size=m.size+2:=by simp[m2,m1]
 clear_value m2;have hr:=h0.lt;have xk:∀{M:ah},m2.size<=M.size->∀c∈m.size::S,c<M.size:=λh=>bd hS ab ab;have r2:Rs rb bs m P m2:=⟨x2.fz _,h0.ext x2⟩;refine fS (S:=m.size::S) (a:=0) (ds:=ds) (nf:=nf) (rb:=rb) (aW:=[]) (jM _ _ _ _ _ _) (.Pc az) (lw hr bg) λs3 m3 h3 x3=>?_;intro m4 m5;obtain⟨x5,B5,z5⟩:=iA (M:=m3) (m1:=m4) (m2:=m5) rfl rfl rfl;clear_value m5;have z3:=x3.size;have r5:=(r2.ext x3).ext x5;refine⟨λ_=>?_,λ_=>?_⟩
 ·intro m6;have x6:af m5 m6:=af.push _ _;clear_value m6;have z6:=x6.size;refine fS (S:=m.size::S) (a:=0) (ds:=ds) (nf:=nf) (rb:=rb) (aW:=[]) (jM _ _ _ _ _ _) (.Pc az) (lw hr bg) λs7 m7 h7 x7=>?_;intro m8 m9;obtain⟨x9,B9,z9⟩:=iA (M:=m7) (m1:=m8) (m2:=m9) rfl rfl rfl;clear_value m9;have z7:=x7.size;have r9:=((r5.ext x6).ext x7).ext x9;have h9:=h7.ext x9;have G:∀{M M':ah},m9.size<=M.size->Fz [rb] M M'->∀o,ad M' m7.size o=ad M m7.size o:=λh f o=>kg f hr ⟨ab,ab⟩ o;have LW:∀{M:ah},m9.size<=M.size->Lw rb [m7.size,m3.size,m.size] M:=λh=>lw hr bg;have LK:∀{M:ah}{k:Nat},m9.size<=k->k<M.size->Lw rb [k,m7.size,m3.size,m.size] M:=λh h'=>lw hr bg;have hw:∀n:Int,WX ds nf 0 (.mk 6 3 [.mk 6 2 [],.mk 0 n [],.mk 6 2 []]):=λn=>.Pc (by simp;exact⟨.Pc az,.int n,.Pc az⟩);refine⟨λjm M=>∃s e,jm.2=0/\m.size<=jm.1/\bK M jm.1 aX [.i e.op,.i e.bh,.s s]/\HX (m.size::S) ds nf 0 M s e/\HX (m.size::S) ds nf 0 M s7 (.mk 6 2 [])/\Rs rb bs m (P+1) M/\m9.size<=M.size,?_,?_⟩
  ·have fG:∀{k t0:Nat}{M:ah}{n:Int},bK M k aX [.i 0,.i 0,.s .nil]->m9.size<=k->dC (aY (k::m.size::S) M) (.mk t0 0 3 3) [.mk 6 2 [],.mk 0 n [],.mk 6 2 []]->Rs rb bs m (P+1) M->HX (k::m.size::S) ds nf 0 M s7 (.mk 6 2 [])->
    aD Tryz.prog 243 [vi 6,vi 3,Sl.v (.mk t0 0 3 3)] M λv M'=>da [k,m7.size,m3.size,m.size] M M'/\∃r0 r1:Int,∃r2:Sl,v=.agg #[vi r0,vi r1,Sl.v r2]/\∃s e,((k,0):Nat×Nat).2=0/\m.size<=((k,0):Nat×Nat).1/\bK (ag M' k 0 [.i r0,.i r1,.s r2]) ((k,0):Nat×Nat).1 aX [.i e.op,.i e.bh,.s s]/\HX (m.size::S) ds nf 0 (ag M' k 0 [.i r0,.i r1,.s r2]) s e/\HX (m.size::S) ds nf 0 (ag M' k 0 [.i r0,.i r1,.s r2]) s7 (.mk 6 2 [])/\Rs rb bs m (P+1) (ag M' k 0 [.i r0,.i r1,.s r2])/\m9.size<=(ag M' k 0 [.i r0,.i r1,.s r2]).size:=λB hk hs r h=>
    fS hs (hw _) (LK hk B.lt) λs' M' h' x=>⟨s',.mk 6 3 [.mk 6 2 [],.mk 0 _ [],.mk 6 2 []],rfl,by show m.size<=_;omega,bK.ag (m:=M') (o:=0) (r:=[.i 6,.i 3,.s s']) (B.ext x),(h'.put az _ _).eE,((h.ext x).put az _ _).eE,(r.ext x).put h0 ab _ _,by rw[aq];have:=B.lt;have:=x.size;omega⟩
   have zb:∀M:ah,af M (M.push (.cells (aU [.i 0,.i 0,.s .nil]) aX))/\bK (M.push (.cells (aU [.i 0,.i 0,.s .nil]) aX)) M.size aX [.i 0,.i 0,.s .nil]:=λM=>⟨af.push _ _,bK.push _ _ _⟩;have lit:∀{S':List Nat}{M:ah}{n:Int}{si:Sl},(∀c∈S',c<M.size)->HX S' ds nf 0 M s7 (.mk 6 2 [])->HX S' ds nf 0 M si (.mk 0 n [])->dC (aY S' (M.push (.cells (aU [.i 6,.i 2,.s s7,.i 0,.i n,.s si,.i 6,.i 2,.s s7]) aX))) (.mk M.size 0 3 3) [.mk 6 2 [],.mk 0 n [],.mk 6 2 []]:=λhS h h'=>
    mE [(.mk 6 2 [],s7),(.mk 0 _ [],_),(.mk 6 2 [],s7)] az hS (by simp;exact⟨h.sl,h'.sl,h.sl⟩) rfl rfl
   have uE:∀{M:ah}{k:Nat},m9.size<=k->k<M.size->∀c∈k::m.size::S,c<M.size:=λh h'=>bd (xk (M:=m9) ab) ab h';refine⟨(bo r9.r ab 9).mono λ_ cK⟨n,e,_,_,d10,f10⟩=>⟨(LW (aFR _)).cg f10,n,e,G (aFR _) f10 _,G (aFR _) f10 _,G (aFR _) f10 _,G (aFR _) f10 _,G (aFR _) f10 _,G (aFR _) f10 _,?_,?_⟩,?_⟩
   ·have FC:=r9.to f10 d10;have wh:=f10.size;have ln:=h9.fz (by simp[dx]) f10;refine HZ (m.size::S) ds nf 0 (LW wh) n λDE dm jV eB=>?_;have xw:=eB.size;have g:=λo=>G wh (eB.fz _) o;refine⟨g _,g _,g _,g _,g _,g _,?_,?_⟩
    ·intro df;have fW:af dm df:=af.push _ _;have hs:dC (aY (m.size::S) df) (.mk dm.size 0 3 3) [.mk 6 2 [],.mk 0 n [],.mk 6 2 []]:=lit (S':=m.size::S) (xk ab) (ln.ext eB) jV;have MH:=fW.size;refine⟨?_,?_⟩
     ·refine fS (M:=df) (rb:=rb) hs (hw n) (LW ab) λRb iC uJ fF=>?_;intro gK;have eU:af iC gK:=af.push _ _;have Sw:=fF.size;have g:=λo=>G (M:=iC) (M':=gK) ab (eU.fz _) o;refine⟨g _,g _,g _,g _,g _,g _,?_⟩;intro kT;obtain⟨lp,B15,MI⟩:=iA (M:=iC) (m1:=gK) (m2:=kT) rfl rfl rfl;exact⟨Rb,.mk 6 3 [.mk 6 2 [],.mk 0 n [],.mk 6 2 []],rfl,by show m.size<=iC.size;omega,B15,uJ.ext lp,(((ln.ext eB).ext fW).ext fF).ext lp,(((FC.ext eB).ext fW).ext fF).ext lp,ab⟩
     ·intro iC;obtain⟨fF,B13⟩:af df iC/\bK iC df.size aX [.i 0,.i 0,.s .nil]:=zb df;have g:=λo=>G (M:=df) (M':=iC) ab (fF.fz _) o;exact⟨g _,g _,g _,g _,g _,g _,fG B13 ab (dC.le (fF.aY λb hb=>(List.mem_cons.1 hb).elim (λh=>Or.inr ab) Or.inl) hs) (((FC.ext eB).ext fW).ext fF) (((ln.ext eB).ext fW).dY fF (aFR _))⟩
    ·intro df;obtain⟨fW,VV⟩:af dm df/\bK df dm.size aX [.i 0,.i 0,.s .nil]:=zb dm;have g:=λo=>G (M:=dm) (M':=df) ab (fW.fz _) o;refine⟨g _,g _,g _,g _,g _,g _,?_⟩;intro iC;have fF:af df iC:=af.push _ _;have a7:=(ln.ext eB).dY fW (aFR _);exact fG (VV.ext fF) ab (lit (uE ab VV.lt) a7 (jV.dY fW (aFR _))) (((FC.ext eB).ext fW).ext fF) (a7.ext fF)
   ·have FC:=r9.to f10 d10;have wh:=f10.size;have ln:=h9.fz (by simp[dx]) f10;intro dm;obtain⟨eB,ZX⟩:af cK dm/\bK dm cK.size aX [.i 0,.i 0,.s .nil]:=zb cK;have g:=λo=>G (M:=cK) (M':=dm) ab (eB.fz _) o;have xw:=eB.size;refine⟨g _,g _,g _,g _,g _,g _,?_⟩;refine HZ (cK.size::m.size::S) ds nf 0 (LK ab ZX.lt) n λNJ df nJ fW=>?_;have g:=λo=>G (M:=dm) (M':=df) ab (fW.fz _) o;refine⟨g _,g _,g _,g _,g _,g _,?_⟩;intro iC;have fF:af df iC:=af.push _ _;have a7:=(ln.dY eB (aFR _)).ext fW;exact fG ((ZX.ext fW).ext fF) ab (lit (uE ab (ZX.ext fW).lt) a7 nJ) (((FC.ext eB).ext fW).ext fF) (a7.ext fF)
   ·intro cK;obtain⟨cO,V8⟩:af m9 cK/\bK cK m9.size aX [.i 0,.i 0,.s .nil]:=zb m9;have g:=λo=>G (M:=m9) (M':=cK) ab (cO.fz _) o;have wh:=cO.size;refine⟨g _,g _,g _,g _,g _,g _,?_⟩;refine(bo (r9.ext cO).r ab 9).mono λ_ dm⟨n,e,_,_,d11,f11⟩=>⟨(LK (aFR _) V8.lt).cg f11,n,e,?_⟩;have g:=λo=>G (M:=cK) (M':=dm) ab f11 o;refine⟨g _,g _,g _,g _,g _,g _,?_⟩;have ZX:=V8.congr (f11.same m9.size V8.lt bg);have xw:=f11.size;refine HZ (m9.size::m.size::S) ds nf 0 (LK (aFR _) ZX.lt) n λNJ df nJ fW=>?_;have g:=λo=>G (M:=dm) (M':=df) ab (fW.fz _) o;refine⟨g _,g _,g _,g _,g _,g _,?_⟩;intro iC;have fF:af df iC:=af.push _ _;have a7:=((h9.dY cO (aFR _)).fz (by simp[dx]) f11).ext fW;exact fG ((ZX.ext fW).ext fF) (aFR _) (lit (uE (aFR _) (ZX.ext fW).lt) a7 nJ) ((((r9.ext cO).to f11 d11).ext fW).ext fF) (a7.ext fF)
  ·rintro⟨k,o⟩ M ⟨s,e,ho,hk,B,h,h',r,z⟩;simp only at ho hk B;subst ho;have bl:=B.lt;refine⟨_,B.bH 0,_,B.bH 1,_,B.bH 2,?_⟩;have L3:∀{M':ah},M.size<=M'.size->Lw rb [m7.size,m3.size,m.size] M':=λh=>LW ab;refine(bo r.r ab 9).mono λ_ cK⟨n,en,_,_,d10,f10⟩=>⟨(L3 (aFR _)).cg f10,n,en,?_⟩;have wh:=f10.size;have gg:∀{M1 M2:ah},M.size<=M1.size->Fz [rb] M1 M2->∀o,ad M2 k o=ad M1 k o:=λh f o=>kg f hr ⟨hk,ab⟩ o;have ga:=λo=>G (M:=M) (M':=cK) z f10 o;have gb:=λo=>gg (M1:=M) (M2:=cK) (aFR _) f10 o;refine⟨?_,?_,?_,?_,?_,?_,?_⟩;iterate 6 first|exact ga _|exact gb _
   refine HZ (m.size::S) ds nf 0 (L3 wh) n λDE dm jV eB=>?_;have ga:=λo=>G (M:=cK) (M':=dm) ab (eB.fz _) o;have gb:=λo=>gg (M1:=cK) (M2:=dm) wh (eB.fz _) o;refine⟨?_,?_,?_,?_,?_,?_,?_⟩;iterate 6 first|exact ga _|exact gb _
   intro df;have fW:af dm df:=af.push _ _;have xw:=eB.size;have a:=(h.fz (by simp[dx]) f10).ext eB;have b:=(h'.fz (by simp[dx]) f10).ext eB;have hs:dC (aY (m.size::S) df) (.mk dm.size 0 3 3) [e,.mk 0 n [],.mk 6 2 []]:=mE (S:=m.size::S) (M:=dm) [(e,s),(.mk 0 n [],DE),(.mk 6 2 [],s7)] az (xk ab) (by simp;exact⟨a.sl,jV.sl,b.sl⟩) rfl rfl;refine fS (M:=df) (rb:=rb) hs (.Pc (by simp;exact⟨a.wx,jV.wx,b.wx⟩)) (L3 (M':=df) (by have:=fW.size;omega)) λRb iC uJ fF=>?_;have Ik:=(((r.to f10 d10).ext eB).ext fW).ext fF;exact⟨Rb,_,rfl,(uJ.put az _ _).eE.sl,uJ.wx,((Ik.put h0 (aFR _) _ _).r).mono ab,(Ik.put h0 (aFR _) _ _).f⟩
 ·intro m6 m7;obtain⟨x7,B7,z7⟩:=iA (M:=m5) (m1:=m6) (m2:=m7) rfl rfl rfl;clear_value m7;have r7:=r5.ext x7;have L7:∀{M:ah},m7.size<=M.size->Lw rb [m3.size,m.size] M:=λh=>lw hr bg;refine(bo r7.r ab 3).mono λ_ m8⟨n,en,n0,n3,d8,f8⟩=>⟨(lw hr bg:Lw rb [m5.size,m3.size,m.size] m7).cg f8,n,en,?_⟩;rw[aF (x:=1+n) ab ab];have z8:=f8.size;have BR:m.size<=m5.size:=ab;refine⟨λi M=>0<=i/\i<=3/\∃s e,bK M m5.size aX [.i e.op,.i e.bh,.s s]/\HX (m5.size::m.size::S) ds nf 0 M s e/\Rs rb bs m (P+1+4*(3 -i).toNat) M/\m7.size<=M.size,λi _=>i.toNat,⟨ab,ab,s3,.mk 6 0 [],B7.congr (f8.same _ ab bg),((h3.ext x5).dY x7 (aFR _)).fz (by simp[dx]) f8,?_,z8⟩,?_⟩
  ·exact⟨(r7.to f8 d8).f,d8.mono ab⟩
  rintro i M ⟨i0,i3,s,e,B,h,r,z⟩;refine⟨λhi=>?_,λ_=>⟨_,B.bH 0,_,B.bH 1,_,B.bH 2,s,e,rfl,(h.eE.put az _ _).eE.sl,h.wx,(r.put h0 (aFR _) _ _).r.mono ab,(r.put h0 (aFR _) _ _).f⟩⟩;simp only[aFP]at hi;refine⟨_,B.bH 0,_,B.bH 1,_,B.bH 2,?_⟩;have g:∀{M1 M2:ah},m7.size<=M1.size->Fz [rb] M1 M2->∀o,ad M2 m5.size o=ad M1 m5.size o:=λh f o=>kg f hr ⟨BR,ab⟩ o;refine(zh r.r ab).mono λ_ m9⟨n9,en,d9,f9⟩=>⟨(L7 z).cg f9,n9,en,g z f9 _,g z f9 _,g z f9 _,?_⟩;have z9:=f9.size;refine HZ (m5.size::m.size::S) ds nf 0 (L7 ab) n9 λV6 cK ln cO=>⟨g ab (cO.fz _) _,g ab (cO.fz _) _,g ab (cO.fz _) _,?_⟩;intro dm;have eB:af cK dm:=af.push _ _;have wh:=cO.size;have xw:=eB.size;have a:=(h.fz (by simp[dx]) f9).ext cO;have hs:dC (aY (m5.size::m.size::S) dm) (.mk cK.size 0 2 2) [.mk 0 n9 [],e]:=mE (S:=m5.size::m.size::S) (M:=cK) [(.mk 0 n9 [],V6),(e,s)] az (bd (xk (M:=cK) ab) (aFR _) ab) (by simp;exact⟨ln.sl,a.sl⟩) rfl rfl;refine fS (M:=dm) (rb:=rb) hs (.Pc (by simp;exact⟨ln.wx,a.wx⟩)) (L7 (M:=dm) ab) λNJ df nJ fW=>?_;have VV:bK df m5.size aX [.i e.op,.i e.bh,.s s]:=(((B.congr (f9.same _ B.lt bg)).ext cO).ext eB).ext fW;have MH:=fW.size;rw[aF (x:=i -1) ab ab];refine⟨VV.dW az,λb hb=>aP _ _ _ _ (by simp at hb;omega),⟨ab,ab,NJ,.mk 6 1 [.mk 0 n9 [],e],bK.ag (m:=df) (o:=0) (r:=[.i 6,.i 1,.s NJ]) VV,nJ.put az _ _,?_,by rw[aq];omega⟩,by show(i -1).toNat<i.toNat;omega⟩;have O8:=((((r.to f9 d9).ext cO).ext eB).ext fW).put h0 BR 0 [.i 6,.i 1,.s NJ];exact⟨O8.f,O8.r.mono ab⟩
end
end
section
structure BX(S:List Nat)(ds:List aS)(nf a k:Nat)(M:ah)(s:Sl)(e:Ex):Prop where
 b:bK M k aX [.i e.op,.i e.bh,.s s]
 h:HX (k::S) ds nf a M s e
section
variable{S:List Nat}{rb Q P' P0 k a nf:Nat}{bs s:Sl}{ds:List aS}{m M M':ah}{e:Ex}
theorem BX.new{m1 m2:ah}(h:HX S ds nf a M s e)(h1:m1=M.push (.cells (aU [.i 0,.i 0,.s .nil]) aX))(h2:m2=ag m1 M.size 0 [.i e.op,.i e.bh,.s s]):af M m2/\BX S ds nf a M.size m2 s e/\m2.size=M.size+1:=
 let⟨x,B,z⟩:=iA h1 h2 rfl;⟨x,⟨B,h.dY x (aFR _)⟩,z⟩
theorem BX.fz(h:BX S ds nf a k M s e)(dx:rb∈S)(hk:k≠rb)(f:Fz [rb] M M'):BX S ds nf a k M' s e:=⟨h.b.congr (f.same k h.b.lt (by simpa using hk)),h.h.fz (by simp[dx]) f⟩
theorem BX.ext(h:BX S ds nf a k M s e)(x:af M M'):BX S ds nf a k M' s e:=⟨h.b.ext x,h.h.ext x⟩
theorem BX.set(h:BX S ds nf a k M s e){s':Sl}{e':Ex}(h':HX (k::S) ds nf a M s' e'):BX S ds nf a k (ag M k 0 [.i e'.op,.i e'.bh,.s s']) s' e':=⟨bK.ag (m:=M) (o:=0) (r:=[.i e'.op,.i e'.bh,.s s']) h.b,h'.put az _ _⟩
theorem HX.fG(h:HX (k::S) ds nf a M s e)(r:Rs rb bs m Q M)(h0:Rd rb bs P0 m)(hk:m.size<=k)(hQ:Q<=P'):XP S rb bs m P' (WX ds nf a) (.agg #[vi e.op,vi e.bh,Sl.v s]) (ag M k 0 [.i e.op,.i e.bh,.s s]):=
 ⟨s,e,rfl,(h.put az _ _).eE.sl,h.wx,(r.put h0 hk _ _).r.mono hQ,(r.put h0 hk _ _).f⟩
end
section
variable{S:List Nat}{rb P:Nat}{bs d p:Sl}{ds:List aS}{fs:List bY}{m:ah}
theorem I5(hS:∀c∈S,c<m.size)(dx:rb∈S)(c:GC rb bs P d p ds fs m)(hP:P+200+Cg 18<=10000000000000000):aD Tryz.prog 211 [vp rb 0,.agg #[Sl.v d,Sl.v p]] m (XP S rb bs m (P+200+Cg 18) (WX ds fs.length 0)):=by
 apply AJ (rb,0);simp -zeta only[aw,ax];intro m1 m2 m3;obtain⟨x2,hl⟩:=cv (m1:=m1) (m2:=m2) rfl rfl;have s1:m1.size=m.size+1:=by simp[m1]
 have s2:m2.size=m.size+2:=by simp[m2,s1]
 have x3:af m2 m3:=af.push _ _;have hr:=c.rd.lt;have lit:aj (aY [rb] m3) (.mk m2.size 0 3 3) [1,1,3]:=aj.lit au _ bg rfl rfl az;clear_value m3;clear_value m2;have xk:∀{M:ah},m2.size<=M.size->∀c∈m1.size::S,c<M.size:=λh=>bd hS ab ab;have r3:Rs rb bs m P m3:=⟨(x2.trans x3).fz _,(c.rd.ext x2).ext x3⟩;have z3:=x3.size;refine(ij r3.r ab lit az).mono λ_ m4⟨t,e,ht,d4,f4⟩=>⟨(lw hr bg:Lw rb [m1.size,m.size] m3).cg f4,t,e,?_⟩;have r4:=r3.to f4 d4;have z4:=f4.size;intro m5;have x5:af m4 m5:=af.push _ _;have QR:aj (aY [rb] m5) (.mk m4.size 0 1 1) [t]:=aj.lit au _ (by simp;exact d4.lt) rfl rfl az;clear_value m5;have r5:=r4.ext x5;have z5:=x5.size;refine EM (S:=m1.size::S) (xk ab) (by simp[dx]) (c.to r5.f r5.r) ab QR az (c.gp.ty (t:=0) aO aO) aO (lw hr bg) λe6 s6 m6 h6 d6 f6=>?_;intro m7 m8;obtain⟨x8,b8,z8⟩:=BX.new (m1:=m7) (m2:=m8) h6 rfl rfl;clear_value m8;have z6:=f6.size;have r8:=(r5.to f6 d6).ext x8;have hk:m6.size≠rb:=ab;have L8:∀{M:ah},m8.size<=M.size->Lw rb [m6.size,m1.size,m.size] M:=λh=>lw hr bg;refine⟨λM=>∃s e,BX (m1.size::S) ds fs.length 1 m6.size M s e/\Rs rb bs m (P+2+Cg 18) M/\m8.size<=M.size,?_,?_⟩
 ·refine(bo r8.r ab 3).mono λ_ m9⟨n,en,_,_,d9,f9⟩=>⟨(L8 (aFR _)).cg f9,n,en,λ_=>?_,λ_=>⟨s6,e6,b8.fz (by simp[dx]) hk f9,⟨(r8.to f9 d9).f,d9.mono ab⟩,f9.size⟩⟩;have b9:=b8.fz (by simp[dx]) hk f9;have r9:=r8.to f9 d9;have z9:=f9.size;intro cK;have cO:af m9 cK:=af.push _ _;have hs:dC (aY (m6.size::m1.size::S) cK) (.mk m9.size 0 1 1) [e6]:=mE (S:=m6.size::m1.size::S) (M:=m9) [(e6,s6)] az (bd (xk (M:=m9) ab) (aFR _) b9.b.lt) (by simp;exact b9.h.sl) rfl rfl;have wh:=cO.size;refine fS (M:=cK) hs (.db (a:=1) (ds:=ds) (nf:=fs.length) aO (λh=>ab) aO (λh=>ab) (by simp;exact b9.h.wx)) (L8 ab) λDE dm jV eB=>?_;have Hu:=(r9.ext cO).ext eB;have hb:=((b9.ext cO).ext eB).set jV;exact⟨DE,.mk 5 0 [e6],hb,⟨(Hu.put c.rd ab _ _).f,((Hu.put c.rd ab _ _).r).mono ab⟩,by rw[aq];have:=eB.size;omega⟩
 rintro M ⟨s,e,b,r,z⟩;refine⟨_,b.b.bH 0,_,b.b.bH 1,_,b.b.bH 2,?_⟩;have L1:∀{M:ah},m8.size<=M.size->Lw rb [m1.size,m.size] M:=λh=>lw hr bg;refine XP.kk (KI (S:=m1.size::S) ds fs.length (xk ab) (by simp[dx]) r.r ab t) (L1 z) λs9 e9 m9 h9 w9 d9 f9=>?_;have g:=λo=>kg f9 hr (k:=m6.size) ⟨ab,b.b.lt⟩ o;refine⟨g _,g _,g _,?_⟩;have z9:=f9.size;intro cK;have cO:af m9 cK:=af.push _ _;have b9:=b.fz (by simp[dx]) hk f9;have hs:dC (aY (m1.size::S) cK) (.mk m9.size 0 2 2) [e9,e]:=mE (S:=m1.size::S) (M:=m9) [(e9,s9),(e,s)] az (xk ab) (by simp;exact⟨h9,b9.h.eE.sl⟩) rfl rfl;refine fS (M:=cK) hs (.lt w9 b.h.wx) (L1 (by have:=cO.size;omega)) λDE dm jV eB=>?_;exact jV.fG (((r.to f9 d9).ext cO).ext eB) c.rd ab ab
theorem I6(hS:∀c∈S,c<m.size)(dx:rb∈S)(c:GC rb bs P d p ds fs m)(hP:P+200+2*Cg 18<=10000000000000000){fi:Nat}{q:bY}(hq:fs[fi]? =some q)(h1:1<=q.params.length):
 aD Tryz.prog 214 [vp rb 0,.agg #[Sl.v d,Sl.v p],vi fi] m (XP S rb bs m (P+200+2*Cg 18) (WX ds fs.length q.params.length)):=by
 apply AM (rb,0)
 simp -zeta only[aw,ax]
 intro m1 m2
 obtain⟨x2,hl⟩:=cv (m1:=m1) (m2:=m2) rfl rfl
 have s1:m1.size=m.size+1:=by simp[m1]
 have s2:m2.size=m.size+2:=by simp[m2,s1]
 have hr:=c.rd.lt
 clear_value m2
 have xk:∀{M:ah},m2.size<=M.size->∀c∈m1.size::S,c<M.size:=λh=>bd hS ab ab
 have r2:Rs rb bs m P m2:=⟨x2.fz _,c.rd.ext x2⟩
 have L1:∀{M:ah},m2.size<=M.size->Lw rb [m1.size,m.size] M:=λh=>lw hr bg
 obtain⟨ps,Rc,e0,e1⟩:=c.hp.aE hq
 have gL:=ap hq
 have tA:=c.hp.len
 have vL:=vG _ (c.gp.cq q (ak hq))
 have h3:q.params.length<=3:=vL.1
 have PS:∀{M:ah},Fz [rb] m M->IR rb M ps q.params:=λf=>Rc.le (fh f)
 have E1:∀{M:ah},Fz [rb] m M->ad M p.ao (p.off+fi*5+1)=some (vi q.aH):=λf=>(cT.1 (fh f _ _ _ e1)).2
 refine⟨ab,ab,ps,(cT.1 (fh r2.f _ _ _ e0)).2,?_⟩
 refine uv (m1.size::S) ds fs.length (a:=q.params.length) (L1 (aFR _)) ab λs3 m3 NN x3=>?_
 have z3:=x3.size
 refine HZ (m1.size::S) ds fs.length q.params.length (L1 z3) 1 λs4 m4 h4 x4=>?_
 have z4:=x4.size
 intro m5
 have x5:af m4 m5:=af.push _ _
 have hs5:dC (aY (m1.size::S) m5) (.mk m4.size 0 2 2) [.mk 12 0 [],.mk 0 1 []]:=mE (S:=m1.size::S) (M:=m4) [(.mk 12 0 [],s3),(.mk 0 1 [],s4)] az (xk ab) (by simp;exact⟨(NN.ext x4).sl,h4.sl⟩) rfl rfl
 have z5:=x5.size
 refine fS (M:=m5) hs5 (.db (a:=q.params.length) (ds:=ds) (nf:=fs.length) aO (λh=>ab) aO (λh=>ab) (by simp;exact⟨NN.wx,h4.wx⟩)) (L1 ab) λs6 m6 h6 x6=>?_
 have z6:=x6.size
 have r6:=(((r2.ext x3).ext x4).ext x5).ext x6
 intro m7
 have x7:af m6 m7:=af.push _ _
 have g7:GE (m1.size::S) m6 m7 (.mk m6.size 0 1 1) [.mk 2 0 [.mk 12 0 [],.mk 0 1 []]]:=KG (xk ab) 0 [(.mk 2 0 [.mk 12 0 [],.mk 0 1 []],s6)] az (by simpa using h6.sl) rfl rfl
 clear_value m7
 have agJ:=Rc.len
 refine RX (n:=q.params.length) ab h1 (λj s M=>∃l,GE (m1.size::S) m6 M s l/\l.length=j/\(∀e∈l,WX ds fs.length q.params.length e)/\Rd rb bs (P+22*j) M/\Fz [rb] m6 M) ⟨_,g7,rfl,by simpa using h6.wx,(r6.r.ext x7).mono ab,x7.fz _⟩ ?_
 rintro j s M I μ hj1 hj ⟨l,g,hlen,hw,rM,fM⟩ next
 have FM:=r6.f.trans fM
 have zM:=fM.size
 refine⟨λh=>?_,λ_=>?_⟩
 ·simp only[aFP]at h
  obtain⟨y,hy⟩:=ae (l:=q.params) (k:=j) ab
  have hyt:=vL.2.1 y (ak hy)
  refine⟨ab,ab,y,(cT.1 ((PS FM).aE hy)).2,?_⟩
  exact XP.iN (o8 (S:=s.ao::m1.size::S) (bd (xk (M:=M) ab) (aFR _) g.aN.2) (by simp[dx]) (c.to FM rM) ab (PS FM) ab (c.gp.ty hyt.1 hyt.2)) g fM (L1 ab) r6.r (by simp[dx]) ab λe r M' he g' r' f' _ _=>
   next ab _ _ ⟨_,g',bg,λe' MF=>by rcases List.mem_append.1 MF with h|h;exact hw e' h;simp at h;subst h;exact he.1,r'.mono ab,f'⟩
 refine fS (g.done zR.mono (xk (M:=m6) ab) aO ab) (.db (a:=q.params.length) (ds:=ds) (nf:=fs.length) aO (λh=>ab) aO (λ_=>⟨ab,ab⟩) hw) (L1 ab) λs8 m8 h8 x8=>?_
 intro m9 cK
 obtain⟨cO,NO,wh⟩:=BX.new (m1:=m9) (m2:=cK) h8 rfl rfl
 clear_value cK
 have z8:=x8.size
 have FC:Rs rb bs m (P+66) cK:=⟨(FM.then x8).then cO,((rM.ext x8).ext cO).mono ab⟩
 have hk:m8.size≠rb:=ab
 refine⟨λM=>∃s e,BX (m1.size::S) ds fs.length q.params.length m8.size M s e/\Rs rb bs m (P+66+Cg 18) M/\cK.size<=M.size,⟨ab,ab,_,E1 FC.f,λ_=>?_,λ_=>⟨s8,_,NO,⟨FC.f,FC.r.mono ab⟩,aFR _⟩⟩,?_⟩
 ·have L2:∀{M:ah},cK.size<=M.size->Lw rb [m8.size,m1.size,m.size] M:=λh=>lw hr bg
  have lG:∀{M:ah},cK.size<=M.size->∀c∈m8.size::m1.size::S,c<M.size:=λh=>bd (xk (M:=cK) ab) h ab
  refine EM (S:=m8.size::m1.size::S) (lG (aFR _)) (by simp[dx]) (c.to FC.f FC.r) ab (PS FC.f) ab (c.gp.ty (t:=0) aO aO) aO (L2 (aFR _)) λO1 DE dm jV d11 f11=>?_
  have g:=λo=>kg f11 hr (k:=m8.size) ⟨ab,NO.b.lt⟩ o
  refine⟨g _,g _,g _,?_⟩
  have xw:=f11.size
  intro df
  have fW:af dm df:=af.push _ _
  have wi:=NO.fz (by simp[dx]) hk f11
  have hs:dC (aY (m8.size::m1.size::S) df) (.mk dm.size 0 2 2) [O1,.mk 9 fi l]:=mE (S:=m8.size::m1.size::S) (M:=dm) [(O1,DE),(.mk 9 fi l,s8)] az (lG xw) (by simp;exact⟨jV.sl,wi.h.sl⟩) rfl rfl
  have MH:=fW.size
  refine fS (M:=df) hs (.Pc (by simp;exact⟨jV.wx,h8.wx⟩)) (L2 ab) λRb iC uJ fF=>?_
  have Ik:=(((FC.to f11 d11).ext fW).ext fF).put c.rd (k:=m8.size) ab 0 [.i 6,.i 1,.s Rb]
  have hb:=((wi.ext fW).ext fF).set uJ
  exact⟨Rb,.mk 6 1 [O1,.mk 9 fi l],hb,Ik,by rw[aq];have:=fF.size;omega⟩
 rintro M3 ⟨s,e,b,r,z⟩
 refine HZ (m1.size::S) ds fs.length q.params.length (L1 ab) 0 λDE dm jV eB=>?_
 have xw:=eB.size
 refine uv (m1.size::S) ds fs.length (a:=q.params.length) (L1 ab) ab λNJ df nJ fW=>?_
 have MH:=fW.size
 intro iC
 have fF:af df iC:=af.push _ _
 have hs:dC (aY (m1.size::S) iC) (.mk df.size 0 2 2) [.mk 0 0 [],.mk 12 0 []]:=mE (S:=m1.size::S) (M:=df) [(.mk 0 0 [],DE),(.mk 12 0 [],NJ)] az (xk ab) (by simp;exact⟨(jV.ext fW).sl,nJ.sl⟩) rfl rfl
 have Sw:=fF.size
 refine fS (M:=iC) hs (.db (a:=q.params.length) (ds:=ds) (nf:=fs.length) aO (λh=>ab) aO (λh=>ab) (by simp;exact⟨jV.wx,nJ.wx⟩)) (L1 ab) λV9 gK xh eU=>?_
 intro kT pV
 obtain⟨kW,b16,z16⟩:=BX.new (m1:=kT) (m2:=pV) xh rfl rfl
 clear_value pV
 have Sx:=eU.size
 have X:=(((eB.trans fW).trans fF).trans eU).trans kW
 have r16:=r.ext X
 have b:=b.ext X
 refine⟨_,b.b.bH 0,_,b.b.bH 1,_,b.b.bH 2,ab,ab,_,E1 r16.f,?_⟩
 refine EM (S:=m1.size::S) (xk ab) (by simp[dx]) (c.to r16.f r16.r) ab (PS r16.f) ab (c.gp.ty vL.2.2.1 vL.2.2.2) aO (lw hr bg) λe17 s17 oB LU d17 f17=>?_
 have g:=λo=>kg f17 hr (k:=m8.size) ⟨ab,b.b.lt⟩ o
 have g':=λo=>kg f17 hr (k:=gK.size) ⟨ab,b16.b.lt⟩ o
 refine⟨?_,?_,?_,?_,?_,?_,?_⟩
 iterate 6 first|exact g _|exact g' _
 have z17:=f17.size
 intro sY
 have Ij:af oB sY:=af.push _ _
 have b17:=b.fz (by simp[dx]) hk f17
 have hs:dC (aY (m1.size::S) sY) (.mk oB.size 0 3 3) [.mk 4 0 [.mk 0 0 [],.mk 12 0 []],e,e17]:=mE (S:=m1.size::S) (M:=oB) [(.mk 4 0 [.mk 0 0 [],.mk 12 0 []],V9),(e,s),(e17,s17)] az (xk ab) (by simp;exact⟨(b16.h.eE.fz (by simp[dx]) f17).sl,b17.h.eE.sl,LU.sl⟩) rfl rfl
 refine fS (M:=sY) hs (.db (a:=q.params.length) (ds:=ds) (nf:=fs.length) aO (λ_=>rfl) aO (λh=>ab) (by simp;exact⟨xh.wx,b.h.wx,LU.wx⟩)) (lw hr (by have:=Ij.size;simp;omega)) λs19 Pj h19 Sy=>?_
 exact h19.fG (((r16.to f17 d17).ext Ij).ext Sy) c.rd ab ab
end
end
section
section
variable{S:List Nat}{rb P:Nat}{bs d p:Sl}{ds:List aS}{fs:List bY}{m:ah}
theorem WX.m1{nf a:Nat}{x y z:Ex}(hd:ds∈pL)(hx:WX ds nf a x)(hy:WX ds nf a y)(hz:WX ds nf (a+2) z):WX ds nf a (.mk 8 1 [x,y,z]):=by
 obtain⟨e1,-,e2,e3,-⟩:=Nk ds hd;refine .mt hx (by rw[e1];rfl) az λi e c hi hc=>?_;rw[e1]at hc;rcases i with _|_|i
 ·simp at hi hc;subst hi hc;rw[e2];exact hy
 ·simp at hi hc;subst hi hc;rw[e3];exact hz
 ·simp at hi
theorem I7(hS:∀c∈S,c<m.size)(dx:rb∈S)(c:GC rb bs P d p ds fs m)(hP:P+200+2*Cg 18<=10000000000000000){fi:Nat}{q:bY}(hq:fs[fi]? =some q){at0:Int}(ha:0<=at0/\at0<(q.params.length:Int)):
 aD Tryz.prog 212 [vp rb 0,.agg #[Sl.v d,Sl.v p],vi fi,vi at0] m (XP S rb bs m (P+200+2*Cg 18) (WX ds fs.length q.params.length)):=by
 apply AK (rb,0)
 simp -zeta only[aw,ax]
 intro m1 m2
 obtain⟨x2,hl⟩:=cv (m1:=m1) (m2:=m2) rfl rfl
 have s1:m1.size=m.size+1:=by simp[m1]
 have s2:m2.size=m.size+2:=by simp[m2,s1]
 have hr:=c.rd.lt
 clear_value m2
 have xk:∀{M:ah},m2.size<=M.size->∀c∈m1.size::S,c<M.size:=λh=>bd hS ab ab
 have r2:Rs rb bs m P m2:=⟨x2.fz _,c.rd.ext x2⟩
 have L1:∀{M:ah},m2.size<=M.size->Lw rb [m1.size,m.size] M:=λh=>lw hr bg
 obtain⟨ps,Rc,e0,e1⟩:=c.hp.aE hq
 have gL:=ap hq
 have tA:=c.hp.len
 have vL:=vG _ (c.gp.cq q (ak hq))
 have h3:q.params.length<=3:=vL.1
 have PS:∀{M:ah},Fz [rb] m M->IR rb M ps q.params:=λf=>Rc.le (fh f)
 have E1:∀{M:ah},Fz [rb] m M->ad M p.ao (p.off+fi*5+1)=some (vi q.aH):=λf=>(cT.1 (fh f _ _ _ e1)).2
 have agJ:=Rc.len
 have ty0:=c.gp.ty (t:=0) aO aO
 have aAN:=RY 18
 refine⟨ab,ab,ps,(cT.1 (fh r2.f _ _ _ e0)).2,?_⟩
 intro m3
 have x3:af m2 m3:=af.push _ _
 have lit:aj (aY [rb] m3) (.mk m2.size 0 2 2) [0,1]:=aj.lit au _ bg rfl rfl az
 clear_value m3
 have r3:=r2.ext x3
 have z3:=x3.size
 refine(cS (S:=[rb]) bg (PS r3.f) lit bg).mono λ_ m4⟨w,wl,e,gw,qw,x4⟩=>⟨(L1 z3).cg (x4.fz _),w,e,?_⟩
 subst qw
 have hw4:IR rb m4 w (q.params++[0,1]):=GI.done gw bg bg
 have r4:=r3.ext x4
 have z4:=x4.size
 intro m5
 have x5:af m4 m5:=af.push _ _
 have g5:GE (m1.size::S) m4 m5 (.mk m4.size 0 0 0) []:=Gr.new _ (aFR _) _ _ _
 clear_value m5
 refine cN (n:=q.params.length) ab (λj s M=>∃l,GE (m1.size::S) m4 M s l/\l.length=j/\(∀e∈l,WX ds fs.length (q.params.length+2) e)/\Rd rb bs (P+j) M/\Fz [rb] m4 M) ⟨[],g5,rfl,az,(r4.r.ext x5).mono ab,x5.fz _⟩ ?_
 rintro j s M I μ hj ⟨l,g,hlen,hw,rM,fM⟩ next
 have FM:=r4.f.trans fM
 have zM:=fM.size
 refine⟨λh=>?_,λ_=>?_⟩
 ·simp only[aFP]at h
  obtain⟨y,hy⟩:=ae (l:=q.params) (k:=j) ab
  have fG:∀{f:Nat}{args:List Value}{M1:ah}{Q:Nat},aD Tryz.prog f args M1 (XP (s.ao::m1.size::S) rb bs M1 Q (WX ds fs.length (q.params.length+2)))->Q<=P+(j+1)->Rd rb bs (P+(j+1)) M1->Fz [rb] M M1->aD Tryz.prog f args M1 λv M1'=>da [m1.size,m.size] M1 M1'/\∃r0 r1:Int,∃r2:Sl,v=.agg #[vi r0,vi r1,Sl.v r2]/\
   gA (M1'.push (.cells (aU [.i r0,.i r1,.s r2]) aX)) aX [.i 0,.i 0,.s .nil] 40 s (Sl.mk M1'.size 0 1 1) λr M'=>da [m1.size,m.size] (M1'.push (.cells (aU [.i r0,.i r1,.s r2]) aX)) M'/\I r (bS ((j:Int)+1)) M'/\μ r (bS ((j:Int)+1)) M'<μ s j M:=λhc hQ r1 f1=>
   XP.iN hc (g.eg zR.mono f1 (by simp;exact⟨Or.inr dx,ab⟩)) (fM.trans f1) (L1 ab) r4.r (by simp[dx]) ab λe r M' he g' r' f' _ _=>
    next ab _ _ ⟨_,g',bg,λe' MF=>by rcases List.mem_append.1 MF with h|h;exact hw e' h;simp at h;subst h;exact he,r'.mono hQ,f'⟩
  refine⟨λ_=>?_,λ_=>⟨ab,ab,y,(cT.1 ((PS FM).aE hy)).2,λ_=>?_,λ_=>?_⟩⟩
  ·rw[aF (x:=(ps.len:Int)+1) ab ab]
   exact fG (((jF _ _ _).x rM).mono λ_ _ h=>h.mono (λe he=>he▸.Xc ⟨ab,ab⟩) (aFR _)) ab (rM.mono ab) (Fz.av _ _)
  ·refine(bo rM ab 2).mono λ_ m6⟨n,en,_,_,d6,f6⟩=>⟨(L1 ab).cg f6,n,en,λ_=>?_,λ_=>?_⟩
   ·have z6:=f6.size
    have SK:∀{M1:ah},m6.size<=M1.size->∀c∈s.ao::m1.size::S,c<M1.size:=λh=>bd (xk (M:=m6) ab) h (by have:=g.aN.2;omega)
    refine uv (s.ao::m1.size::S) ds fs.length (a:=q.params.length+2) (L1 ab) ab λs7 m7 h7 x7=>?_
    have z7:=x7.size
    refine uv (s.ao::m1.size::S) ds fs.length (a:=q.params.length+2) (L1 ab) ab λs8 m8 h8 x8=>?_
    have z8:=x8.size
    intro m9
    have x9:af m8 m9:=af.push _ _
    have hs:dC (aY (s.ao::m1.size::S) m9) (.mk m8.size 0 2 2) [.mk 12 j [],.mk 12 ps.len []]:=mE (S:=s.ao::m1.size::S) (M:=m8) [(.mk 12 j [],s7),(.mk 12 ps.len [],s8)] az (SK ab) (by simp;exact⟨(h7.ext x8).sl,h8.sl⟩) rfl rfl
    have d9:=((d6.ext x7).ext x8).ext x9
    exact fG ((kD d9 hs 1 0).mono λ_ _ h=>h.mono (λe he=>he▸.db aO (λh=>ab) aO (λh=>ab) (by simp;exact⟨h7.wx,h8.wx⟩)) (aFR _)) ab d9 (((f6.then x7).then x8).then x9)
   ·exact fG (((jF _ _ _).x d6).mono λ_ _ h=>h.mono (λe he=>he▸.Xc ⟨ab,ab⟩) (aFR _)) ab d6 f6
  ·exact fG (((jF _ _ _).x rM).mono λ_ _ h=>h.mono (λe he=>he▸.Xc ⟨ab,ab⟩) (aFR _)) ab (rM.mono ab) (Fz.av _ _)
 refine fS (g.done zR.mono (xk (M:=m4) ab) aO ab) (.db (a:=q.params.length+2) (ds:=ds) (nf:=fs.length) aO (λh=>ab) aO (λ_=>⟨ab,ab⟩) hw) (L1 ab) λs6 m6 h6 x6=>?_
 have z6:=x6.size
 intro m7 m8
 obtain⟨x8,B8,z8⟩:=iA (M:=m6) (m1:=m7) (m2:=m8) rfl rfl rfl
 clear_value m8
 have h8:=h6.ext x8
 intro m9 cK
 obtain⟨cO,NO,wh⟩:=BX.new (m1:=m9) (m2:=cK) h8 rfl rfl
 clear_value cK
 have FC:Rs rb bs m (P+3) cK:=⟨((FM.then x6).then x8).then cO,(((rM.ext x6).ext x8).ext cO).mono ab⟩
 have hk:m8.size≠rb:=ab
 have L2:∀{M:ah},cK.size<=M.size->Lw rb [m8.size,m6.size,m1.size,m.size] M:=λh=>lw hr bg
 have kX:∀{M:ah},cK.size<=M.size->∀c∈m8.size::m1.size::S,c<M.size:=λh=>bd (xk (M:=cK) ab) h ab
 have W:∀{M:ah},Fz [rb] m4 M->IR rb M w (q.params++[0,1]):=λf=>hw4.le (fh f)
 have f10:Fz [rb] m4 cK:=((fM.then x6).then x8).then cO
 have wl:(q.params++[0,1]).length=q.params.length+2:=az
 refine⟨λM=>∃s e,BX (m1.size::S) ds fs.length (q.params.length+2) m8.size M s e/\Rs rb bs m (P+10+Cg 18) M/\cK.size<=M.size,⟨ab,ab,_,E1 FC.f,λQB=>?_,λ_=>⟨ab,ab,_,E1 FC.f,λ_=>?_,λ_=>⟨s6,_,NO,⟨FC.f,FC.r.mono ab⟩,aFR _⟩⟩⟩,?_⟩
 ·simp only[aFZ]at QB
  refine(bo FC.r ab 5).mono λ_ dm⟨n,en,_,_,d11,f11⟩=>⟨(L2 (aFR _)).cg f11,n,en,λ_=>?_,λ_=>⟨ab,ab,_,E1 (FC.f.trans f11),λh=>by rw[QB]at h;exact absurd h aO,λ_=>⟨s6,_,NO.fz (by simp[dx]) hk f11,⟨(FC.to f11 d11).f,d11.mono ab⟩,f11.size⟩⟩⟩
  have Hu:=FC.to f11 d11
  have xw:=f11.size
  have wi:=NO.fz (by simp[dx]) hk f11
  refine EM (v:=q.params++[0,1]) (S:=m8.size::m1.size::S) (kX xw) (by simp[dx]) (c.to Hu.f Hu.r) ab (W (f10.trans f11)) bg ty0 aO (L2 xw) λe12 NJ df nJ d12 f12=>?_
  rw[wl]at nJ
  intro iC gK
  obtain⟨eU,b14,Sx⟩:=BX.new (m1:=iC) (m2:=gK) nJ rfl rfl
  clear_value gK
  have MH:=f12.size
  have ZV:=(Hu.to f12 d12).ext eU
  have Pp:=(wi.fz (by simp[dx]) hk f12).ext eU
  have hk3:df.size≠rb:=ab
  have a14:HX (df.size::m8.size::m1.size::S) ds fs.length (q.params.length+2) gK s6 (.mk 9 fi l):=(wi.h.fz (by simp[dx]) f12).dY eU (aFR _)
  have L3:∀{M:ah},gK.size<=M.size->Lw rb [df.size,m8.size,m6.size,m1.size,m.size] M:=λh=>lw hr bg
  refine⟨λM=>∃s e,BX (m8.size::m1.size::S) ds fs.length (q.params.length+2) df.size M s e/\HX (m8.size::m1.size::S) ds fs.length (q.params.length+2) M s6 (.mk 9 fi l)/\Rs rb bs m (P+4+Cg 18) M/\gK.size<=M.size/\bK M m8.size aX [.i 9,.i fi,.s s6],⟨λ_=>?_,λ_=>⟨NJ,e12,b14,a14.eE,ZV,aFR _,Pp.b⟩⟩,?_⟩
  ·obtain⟨y,hy⟩:=ae (l:=q.params) (k:=0) ab
   refine⟨aO,ab,y,(cT.1 ((PS ZV.f).aE hy)).2,λ_=>?_,λ_=>⟨NJ,e12,b14,a14.eE,ZV,aFR _,Pp.b⟩⟩
   refine uv (df.size::m8.size::m1.size::S) ds fs.length (a:=q.params.length+2) (L3 (aFR _)) ab λRe kT JB lp=>?_
   have MI:=lp.size
   refine uv (df.size::m8.size::m1.size::S) ds fs.length (a:=q.params.length+2) (L3 MI) ab λs16 pV FI kW=>?_
   have z16:=kW.size
   intro oB
   have xl:af pV oB:=af.push _ _
   have hs:dC (aY (df.size::m8.size::m1.size::S) oB) (.mk pV.size 0 2 2) [.mk 12 0 [],.mk 12 ps.len []]:=mE (S:=df.size::m8.size::m1.size::S) (M:=pV) [(.mk 12 0 [],Re),(.mk 12 ps.len [],s16)] az (bd (kX (M:=pV) ab) (aFR _) ab) (by simp;exact⟨(JB.ext kW).sl,FI.sl⟩) rfl rfl
   have z17:=xl.size
   refine fS (M:=oB) hs (.db (a:=q.params.length+2) (ds:=ds) (nf:=fs.length) aO (λh=>ab) aO (λh=>ab) (by simp;exact⟨JB.wx,FI.wx⟩)) (L3 ab) λs18 sY Vw Ij=>?_
   have X:=((lp.trans kW).trans xl).trans Ij
   have hb:=(b14.ext X).set Vw
   have ha:=(a14.ext X).put (k:=df.size) az 0 [.i 11,.i 0,.s s18]
   have hB:bK (ag sY df.size 0 [.i 11,.i 0,.s s18]) m8.size aX [.i 9,.i fi,.s s6]:=(Pp.b.ext X).congr (aP _ _ _ _ ab)
   exact⟨s18,.mk 11 0 [.mk 12 0 [],.mk 12 ps.len []],hb,ha.eE,(ZV.ext X).put c.rd ab _ _,by rw[aq];have:=X.size;omega,hB⟩
  rintro M3 ⟨s,e,b,a,r,z,B⟩
  refine⟨_,b.b.bH 0,_,b.b.bH 1,_,b.b.bH 2,?_⟩
  intro kT
  have lp:af M3 kT:=af.push _ _
  have hs:dC (aY (m8.size::m1.size::S) kT) (.mk M3.size 0 2 2) [e,.mk 9 fi l]:=mE (S:=m8.size::m1.size::S) (M:=M3) [(e,s),(.mk 9 fi l,s6)] az (kX ab) (by simp;exact⟨b.h.eE.sl,a.sl⟩) rfl rfl
  have MI:=lp.size
  refine fS (M:=kT) hs (.Pc (by simp;exact⟨b.h.wx,a.wx⟩)) (L2 ab) λs16 pV FI kW=>?_
  have hb:=(BX.mk (e:=.mk 9 fi l) ((B.ext lp).ext kW) ((a.ext lp).ext kW)).set FI
  have r16:=((r.ext lp).ext kW).put c.rd (k:=m8.size) ab 0 [.i 6,.i 1,.s s16]
  exact⟨s16,.mk 6 1 [e,.mk 9 fi l],hb,⟨r16.f,r16.r.mono ab⟩,by rw[aq];have:=kW.size;omega⟩
 ·intro dm
  have eB:af cK dm:=af.push _ _
  have lit:aj (aY [rb] dm) (.mk cK.size 0 2 2) [1,2]:=aj.lit au _ bg rfl rfl az
  clear_value dm
  have xw:=eB.size
  have gg:∀{M1 M2:ah}{k:Nat},cK.size<=M1.size->Fz [rb] M1 M2->m.size<=k->k<cK.size->∀o,ad M2 k o=ad M1 k o:=λh f h1 h2 o=>kg f hr ⟨h1,ab⟩ o
  refine⟨gg (aFR _) (eB.fz _) ab ab _,gg (aFR _) (eB.fz _) ab ab _,gg (aFR _) (eB.fz _) ab ab _,gg (aFR _) (eB.fz _) ab ab _,gg (aFR _) (eB.fz _) ab ab _,?_⟩
  have Hu:=FC.ext eB
  refine(ij Hu.r ab lit az).mono λ_ df⟨n,en,hn,d12,f12⟩=>⟨(L2 xw).cg f12,n,en,gg xw f12 ab ab _,gg xw f12 ab ab _,gg xw f12 ab ab _,gg xw f12 ab ab _,gg xw f12 ab ab _,?_⟩
  have O8:=Hu.to f12 d12
  have MH:=f12.size
  refine EM (v:=q.params++[0,1]) (S:=m8.size::m1.size::S) (kX ab) (by simp[dx]) (c.to O8.f O8.r) ab (W ((f10.then eB).trans f12)) bg ty0 aO (L2 ab) λe13 Rb iC uJ d13 f13=>?_
  rw[wl]at uJ
  have Sw:=f13.size
  refine⟨gg ab f13 ab ab _,gg ab f13 ab ab _,gg ab f13 ab ab _,?_⟩
  intro gK
  have eU:af iC gK:=af.push _ _
  have b13:=((NO.ext eB).fz (by simp[dx]) hk f12).fz (by simp[dx]) hk f13
  have hs:dC (aY (m8.size::m1.size::S) gK) (.mk iC.size 0 2 2) [e13,.mk 9 fi l]:=mE (S:=m8.size::m1.size::S) (M:=iC) [(e13,Rb),(.mk 9 fi l,s6)] az (kX ab) (by simp;exact⟨uJ.sl,b13.h.sl⟩) rfl rfl
  have Sx:=eU.size
  simp at hn
  refine fS (M:=gK) hs (.db (a:=q.params.length+2) (ds:=ds) (nf:=fs.length) ab (λh=>ab) ab (λh=>ab) (by simp;exact⟨uJ.wx,b13.h.wx⟩)) (L2 ab) λRe kT JB lp=>?_
  have hb:=((b13.ext eU).ext lp).set JB
  have Uu:=(((O8.to f13 d13).ext eU).ext lp).put c.rd (k:=m8.size) ab 0 [.i n,.i 0,.s Re]
  exact⟨Re,.mk n 0 [e13,.mk 9 fi l],hb,⟨Uu.f,Uu.r.mono ab⟩,by rw[aq];have:=lp.size;omega⟩
 rintro M3 ⟨s,e,b,r,z⟩
 have L3:∀{M:ah},cK.size<=M.size->Lw rb [m6.size,m1.size,m.size] M:=λh=>lw hr bg
 have gk2:∀{M1 M2:ah}{k:Nat},M3.size<=M1.size->Fz [rb] M1 M2->m.size<=k->k<cK.size->∀o,ad M2 k o=ad M1 k o:=λh f h1 h2 o=>kg f hr ⟨h1,ab⟩ o
 refine⟨ab,ab,_,E1 r.f,_,b.b.bH 0,_,b.b.bH 1,_,b.b.bH 2,?_⟩
 refine uv (m1.size::S) ds fs.length (a:=q.params.length) (L3 z) ha λDE dm jV eB=>?_
 have xw:=eB.size
 have gx:∀k o,m.size<=k->k<cK.size->ad dm k o=ad M3 k o:=λk o h1 h2=>gk2 (aFR _) (eB.fz _) h1 h2 o
 refine⟨gx _ _ ab ab,gx _ _ ab ab,gx _ _ ab ab,(E1 (r.f.then eB)).trans (E1 r.f).symm,gx _ _ ab ab,gx _ _ ab ab,gx _ _ ab ab,?_⟩
 have Hu:=r.ext eB
 refine EM (S:=m1.size::S) (xk ab) (by simp[dx]) (c.to Hu.f Hu.r) ab (PS Hu.f) ab (c.gp.ty vL.2.2.1 vL.2.2.2) aO (L3 ab) λe12 NJ df nJ d12 f12=>?_
 have gy:∀o,ad df m8.size o=ad dm m8.size o:=gk2 xw f12 ab ab
 refine⟨gy _,gy _,gy _,?_⟩
 have MH:=f12.size
 intro iC
 have fF:af df iC:=af.push _ _
 have Pp:=(b.ext eB).fz (by simp[dx]) hk f12
 have hs:dC (aY (m1.size::S) iC) (.mk df.size 0 3 3) [.mk 12 at0 [],e12,e]:=mE (S:=m1.size::S) (M:=df) [(.mk 12 at0 [],DE),(e12,NJ),(e,s)] az (xk ab) (by simp;exact⟨(jV.fz (by simp[dx]) f12).sl,nJ.sl,Pp.h.eE.sl⟩) rfl rfl
 refine fS (M:=iC) hs (.m1 c.gp.ds jV.wx nJ.wx b.h.wx) (L3 (by have:=fF.size;omega)) λV9 gK xh eU=>?_
 exact xh.fG (((Hu.to f12 d12).ext fF).ext eU) c.rd ab ab
end
end
section
abbrev G3(M M':ah)(k:Nat)(X:Prop):Prop:=ad M' k 0=ad M k 0/\ad M' k 1=ad M k 1/\ad M' k 2=ad M k 2/\X
abbrev E3(v:Value)(X:Int->Int->Sl->Prop):Prop:=∃r0 r1:Int,∃r2:Sl,v=.agg #[vi r0,vi r1,Sl.v r2]/\X r0 r1 r2
abbrev N1(L:List Nat)(t0:Nat)(M:ah)(K:Int->Int->Sl->ah->Prop):Prop:=aD Tryz.prog 243 [vi 1,vi 0,Sl.v (.mk t0 0 2 2)] M λv M'=>da L M M'/\E3 v λa b c=>K a b c M'
section
variable(L:List Nat)(rb:Nat)(fi:Int)(sl sr d p w ps:Sl)(k16 k13 k0:Nat)(F:Int->Int->Sl->ah->Prop)
abbrev TR5(t0:Nat)(M:ah):Prop:=N1 L t0 M λa b c M'=>G3 M M' k13 (N1 L M'.size (M'.push (.cells (aU [.i 9,.i fi,.s sl,.i a,.i b,.s c]) aX)) F)
abbrev TR4(a b:Int)(c:Sl)(M:ah):Prop:=G3 M (M.push (.cells (aU [.i a,.i b,.s c,.i 9,.i fi,.s sr]) aX)) k13 (TR5 L fi sl k13 F M.size (M.push (.cells (aU [.i a,.i b,.s c,.i 9,.i fi,.s sr]) aX)))
abbrev TR3(M:ah):Prop:=aD Tryz.prog 242 [vp rb 0,.agg #[Sl.v d,Sl.v p],Sl.v w,vi 0,vi 4] M λv M'=>da L M M'/\E3 v λa b c=>G3 M M' k16 (G3 M M' k13 (TR4 L fi sl sr k13 F a b c M'))
abbrev TR2(t0:Nat)(M:ah):Prop:=aD Tryz.prog 116 [Sl.v ps,Sl.v (.mk t0 0 3 3)] M λv M'=>da L M M'/\∃s:Sl,v=Sl.v s/\G3 M M' k16 (ad M' k0 0=ad M k0 0/\ad M' k0 1=ad M k0 1/\G3 M M' k13 (TR3 L rb fi sl sr d p s k16 k13 F M'))
end
theorem _root_.Go.Vc.aap{σ τ:Type}{n:Nat}(hn:n<=9223372036854775807)(h1:1<=n){m:ah}{s0:σ}{t0:τ}{Body:(σ->τ->Int->ah->Prop)->(σ->τ->Int->ah->Nat)->σ->τ->Int->ah->Prop}(Q:Nat->σ->τ->ah->Prop)(h0:Q 1 s0 t0 m)
 (h:∀(k:Nat)(s:σ)(t:τ)(m1:ah)(I:σ->τ->Int->ah->Prop)(μ:σ->τ->Int->ah->Nat),1<=k->k<=n->Q k s t m1->
  (k<n->∀s' t' m',Q (k+1) s' t' m'->I s' t' (bS ((k:Int)+1)) m'/\μ s' t' (bS ((k:Int)+1)) m'<μ s t k m1)->Body I μ s t k m1):
 ∃(I:σ->τ->Int->ah->Prop)(μ:σ->τ->Int->ah->Nat),I s0 t0 1 m/\∀s t i m1,I s t i m1->Body I μ s t i m1:=by
 refine⟨λs t i m'=>∃k:Nat,i=k/\1<=k/\k<=n/\Q k s t m',λ_ _ i _=>(n -i).toNat,⟨1,rfl,aFR _,h1,h0⟩,?_⟩
 rintro s t i m1 ⟨k,rfl,h1,hk,hq⟩
 refine h k s t m1 _ _ h1 hk hq λcA s' t' m' zB=>?_
 rw[iG cA hn]
 exact⟨⟨k+1,rfl,ab,cA,zB⟩,Bw cA⟩
def Qd(_:ah)(cs:List Ce)(n:Int):Prop:=∃s:Sl,cs=[.i 12,.i n,.s s]/\s.len=0
theorem Qd.mono:lV 3 Qd:=⟨λ_ h=>h,λ⟨_,h,_⟩=>by rw[h];rfl⟩
abbrev GV(m0 m:ah)(s:Sl)(l:List Int):Prop:=Gr [] m0 m aX 3 Qd s l
theorem GV.eg{m0 m m':ah}{s:Sl}{l:List Int}(h:GV m0 m s l)(q:m'[s.ao]? =m[s.ao]?):GV m0 m' s l:=by
 obtain⟨h0,css,h1,h2⟩:=h;exact⟨h0,css,h1.congr q,h2.mono λ_ _ h=>h⟩
theorem GV.ex{S:List Nat}{m0 m:ah}{s:Sl}{l:List Int}(h:GV m0 m s l)(hS:s.ao∉S)(hl:l.length<=1000):dC (aY S m) s (l.map λn=>.mk 12 n []):=by
 obtain⟨h0,css,h1,h2⟩:=h;have H:=Gr.lB (S:=S) Qd.mono ⟨h0,css,h1,h2.mono λ_ _ h=>h⟩ hS aO ab;refine⟨by rw[H.len];simp,H.cap,H.eP,λk x hk=>?_⟩;simp only[aGb,aGN]at hk;obtain⟨n,hn,rfl⟩:=hk;obtain⟨cs,⟨t,rfl,ht⟩,hr⟩:=H.iu k n hn;exact⟨_,zR.of ⟨ht,ab,ab,az⟩,hr⟩
structure AS(S:List Nat)(ds:List aS)(nf a n0 k Q rb:Nat)(bs:Sl)(m M:ah)(sl:Sl)(el:Ex)(sr:Sl)(er:Ex):Prop where
 b:bK M k aX [.i 0,.i 0,.s .nil]
 hk:n0<=k
 l:HX (k::S) ds nf a M sl el
 r:HX (k::S) ds nf a M sr er
 s:Rs rb bs m Q M
section
variable{S:List Nat}{ds:List aS}{nf a n0 k Q Q' rb:Nat}{bs sl sr:Sl}{m M M':ah}{el er:Ex}
theorem AS.ext(h:AS S ds nf a n0 k Q rb bs m M sl el sr er)(x:af M M'):AS S ds nf a n0 k Q rb bs m M' sl el sr er:=⟨h.b.ext x,h.hk,h.l.ext x,h.r.ext x,h.s.ext x⟩
theorem AS.fz(h:AS S ds nf a n0 k Q rb bs m M sl el sr er)(dx:rb∈S)(hk:k≠rb)(f:Fz [rb] M M')(r:Rd rb bs Q' M'):AS S ds nf a n0 k Q' rb bs m M' sl el sr er:=⟨h.b.congr (f.same k h.b.lt (by simpa using hk)),h.hk,h.l.fz (by simp[dx]) f,h.r.fz (by simp[dx]) f,h.s.to f r⟩
theorem AS.new(hn:n0<=M.size)(l:HX S ds nf a M sl el)(r:HX S ds nf a M sr er)(s:Rs rb bs m Q M):af M (M.push (.cells (aU [.i 0,.i 0,.s .nil]) aX))/\AS S ds nf a n0 M.size Q rb bs m (M.push (.cells (aU [.i 0,.i 0,.s .nil]) aX)) sl el sr er:=
 have x:=af.push M (.cells (aU [.i 0,.i 0,.s .nil]) aX)
 ⟨x,bK.push _ _ _,hn,l.dY x (aFR _),r.dY x (aFR _),s.ext x⟩
end
section
variable{S:List Nat}{rb P:Nat}{bs d p:Sl}{ds:List aS}{fs:List bY}{m:ah}
theorem WX.m3{nf a:Nat}{x y z:Ex}(hd:ds∈pL)(hx:WX ds nf a x)(hy:WX ds nf a y)(hz:WX ds nf (a+3) z):WX ds nf a (.mk 8 3 [x,y,z]):=by
 obtain⟨-,e1,-,-,e2,e3⟩:=Nk ds hd;refine .mt hx (by rw[e1];rfl) az λi e c hi hc=>?_;rw[e1]at hc;rcases i with _|_|i
 ·simp at hi hc;subst hi hc;rw[e2];exact hy
 ·simp at hi hc;subst hi hc;rw[e3];exact hz
 ·simp at hi
theorem WX.add{nf a:Nat}{x y:Ex}(hx:WX ds nf a x)(hy:WX ds nf a y):WX ds nf a (.mk 1 0 [x,y]):=.db aO (λh=>ab) aO (λh=>ab) (by simp;exact⟨hx,hy⟩)
theorem I8(hS:∀c∈S,c<m.size)(dx:rb∈S)(c:GC rb bs P d p ds fs m)(hP:P+200+3*Cg 18<=10000000000000000){fi:Nat}{q:bY}(hq:fs[fi]? =some q)(VX:1<=q.params.length):
 aD Tryz.prog 213 [vp rb 0,.agg #[Sl.v d,Sl.v p],vi fi] m (XP S rb bs m (P+200+3*Cg 18) (WX ds fs.length q.params.length)):=by
 apply AL (rb,0)
 simp -zeta only[aw,ax]
 intro m1 m2
 obtain⟨x2,hl⟩:=cv (m1:=m1) (m2:=m2) rfl rfl
 have s1:m1.size=m.size+1:=by simp[m1]
 have s2:m2.size=m.size+2:=by simp[m2,s1]
 have hr:=c.rd.lt
 clear_value m2
 have xk:∀{M:ah},m2.size<=M.size->∀c∈m1.size::S,c<M.size:=λh=>bd hS ab ab
 have r2:Rs rb bs m P m2:=⟨x2.fz _,c.rd.ext x2⟩
 have L1:∀{M:ah},m2.size<=M.size->Lw rb [m1.size,m.size] M:=λh=>lw hr bg
 obtain⟨ps,Rc,e0,e1⟩:=c.hp.aE hq
 have gL:=ap hq
 have tA:=c.hp.len
 have vL:=vG _ (c.gp.cq q (ak hq))
 have h3:q.params.length<=3:=vL.1
 have PS:∀{M:ah},Fz [rb] m M->IR rb M ps q.params:=λf=>Rc.le (fh f)
 have E1:∀{M:ah},Fz [rb] m M->ad M p.ao (p.off+fi*5+1)=some (vi q.aH):=λf=>(cT.1 (fh f _ _ _ e1)).2
 have agJ:=Rc.len
 have ty0:=c.gp.ty (t:=0) aO aO
 have Qv:rb∈m1.size::S:=by simp[dx]
 refine⟨ab,ab,ps,(cT.1 (fh r2.f _ _ _ e0)).2,?_⟩
 refine uv (m1.size::S) ds fs.length (a:=q.params.length+3) (L1 (aFR _)) ab λs3 m3 NN x3=>?_
 have z3:=x3.size
 intro m4
 have x4:af m3 m4:=af.push _ _
 have g4:GV m3 m4 (.mk m3.size 0 1 1) [(ps.len:Int)]:=Gr.lit (css:=[[.i 12,.i ps.len,.s s3]]) Qd.mono (aFR _) az rfl rfl ⟨rfl,az,λj c e hj he=>by
  have:j=0:=by have:=ap hj;simp at this;omega
  subst this;simp at hj he;subst hj he;exact⟨s3,rfl,NN.sl.len⟩⟩
 have s4:m4.size=m3.size+1:=by simp[m4]
 clear_value m4
 rw[aF (x:=(ps.len:Int)+2) ab ab]
 refine uv (m1.size::S) ds fs.length (a:=q.params.length+3) (L1 ab) ab λs5 m5 h5 x5=>?_
 have z5:=x5.size
 intro m6
 have x6:af m5 m6:=af.push _ _
 have g6:GV m5 m6 (.mk m5.size 0 1 1) [(ps.len:Int)+2]:=Gr.lit (css:=[[.i 12,.i (ps.len+2),.s s5]]) Qd.mono (aFR _) az rfl rfl ⟨rfl,az,λj c e hj he=>by
  have:j=0:=by have:=ap hj;simp at this;omega
  subst this;simp at hj he;subst hj he;exact⟨s5,rfl,h5.sl.len⟩⟩
 clear_value m6
 have r3:=r2.ext x3
 have vq:∀{M M':ah}{n:Int}{s:Sl}{l:List Int}{K:Sl->ah->Prop}{t:Sl},GV m3 M s l->af m3 M->l.length<=10->t.len=0->(∀r M',GV m3 M' r (l++[n])->af m3 M'->M.size<=M'.size->(r.ao=s.ao\/M.size<=r.ao)->(∀b,b<M.size->b≠s.ao->M'[b]? =M[b]?)->K r M')->
  gA (M.push (.cells (aU [.i 12,.i n,.s t]) aX)) aX [.i 0,.i 0,.s .nil] 40 s (.mk M.size 0 1 1) K:=λg x hl ht hk=>
  Gr.iN (zs:=[.i 0,.i 0,.s .nil]) (X:=[]) Qd.mono aO g (x.fz []) ⟨_,rfl,ht⟩ ab λr M' g' f' z q=>hk r M' g' f'.ext z.1 z.2 q
 refine aap (n:=q.params.length) ab VX (λj s t M=>∃l l',GV m3 M s l/\GV m3 M t l'/\l.length=j/\l'.length=j/\(∀n∈l,0<=n/\n<((q.params.length+3:Nat):Int))/\(∀n∈l',0<=n/\n<((q.params.length+3:Nat):Int))/\af m3 M/\s.ao≠t.ao) ⟨_,_,(g4.eg ((x5.trans x6).same _ (by show m3.size<_;omega))),Gr.bN Qd.mono g6 (λ_ h=>Or.inl h) ab,rfl,rfl,bg,bg,(x4.trans x5).trans x6,by show m3.size≠m5.size;omega⟩ ?_
 rintro j s t M I μ hj1 hj ⟨l,l',g,g',hlen,av9,hw,rJ,xM,cx⟩ next
 have zM:=xM.size
 have RM:=r3.ext xM
 refine⟨λh=>?_,λ_=>?_⟩
 ·simp only[aFP]at h
  refine uv (m1.size::S) ds fs.length (a:=q.params.length+3) (L1 ab) ab λs7 m7 h7 x7=>?_
  have gy:=g.aN;have gy':=g'.aN
  have z7:=x7.size
  intro m8
  refine vq (M':=m7) (g.eg (x7.same _ gy.2)) (xM.trans x7) ab h7.sl.len λr9 m9 g9 x9 z9 b9 q9=>?_
  refine⟨(L1 (M:=m3) z3).CZ ((((xM.trans x7).trans (af.push m7 _)).fz [rb])) (x9.fz _),?_⟩
  refine uv (m1.size::S) ds fs.length (a:=q.params.length+3) (L1 ab) ab λV6 cK ln cO=>?_
  intro dm
  have g9':=((g'.eg (x7.same _ gy'.2)).eg (q9 _ ab (aHh cx))).eg (cO.same _ ab)
  have wh:=cO.size
  refine vq (M':=m7) g9' (x9.trans cO) ab ln.sl.len λO8 df g12 fW MH Pp VR=>?_
  refine⟨(L1 (M:=m3) z3).CZ (((x9.trans cO).trans (af.push cK _)).fz [rb]) (fW.fz _),next ab _ _ _ ⟨_,_,(g9.eg (cO.same _ g9.aN.2)).eg (VR _ (by have:=g9.aN.2;omega) ab),g12,bg,bg,λn hn=>?_,λn hn=>?_,fW,by have:=g9.aN.2;omega⟩⟩
  ·rcases List.mem_append.1 hn with h|h
   ·exact hw n h
   ·simp at h;omega
  ·rcases List.mem_append.1 hn with h|h
   ·exact rJ n h
   ·simp at h;omega
 have gy:=g.aN;have gy':=g'.aN
 have nS:∀b,m3.size<=b->b∉m1.size::S:=λb hb h=>by have:=xk (M:=m2) (aFR _) b h;omega
 have call:∀l:List Int,(∀n∈l,0<=n/\n<((q.params.length+3:Nat):Int))->WX ds fs.length (q.params.length+3) (.mk 9 fi (l.map λn=>.mk 12 n [])):=λl hl=>.db aO (λh=>ab) aO (λ_=>⟨ab,ab⟩) (by simp;exactλn hn=>.Xc (hl n hn))
 refine fS (g.ex (nS _ gy.1) ab) (call l hw) (L1 ab) λsl m7 h7 x7=>?_
 intro m8 m9
 obtain⟨x9,-,z9⟩:=iA (M:=m7) (m1:=m8) (m2:=m9) rfl rfl rfl
 clear_value m9
 have z7:=x7.size
 refine fS ((g'.eg ((x7.trans x9).same _ gy'.2)).ex (nS _ gy'.1) ab) (call l' rJ) (lw hr bg) λsr cK ln cO=>?_
 intro dm df
 obtain⟨fW,-,MH⟩:=iA (M:=cK) (m1:=dm) (m2:=df) rfl rfl rfl
 clear_value df
 have wh:=cO.size
 have agN:=((h7.ext x9).ext cO).ext fW
 have agO:=ln.ext fW
 generalize Q0:Ex.mk 9 fi (l.map λn=>.mk 12 n [])=el at agN
 generalize her:Ex.mk 9 fi (l'.map λn=>.mk 12 n [])=er at agO
 have O8:=(((RM.ext x7).ext x9).ext cO).ext fW
 have NH:=((x7.trans x9).trans cO).trans fW
 have hkr:∀{k:Nat},df.size<=k->k≠rb:=λh=>ab
 have G:∀{M M':ah}{k o:Nat},df.size<=M.size->Fz [rb] M M'->m.size<=k->k<df.size->ad M' k o=ad M k o:=λh f h1 h2=>kg f hr ⟨h1,ab⟩ _
 have L4:∀{M:ah},df.size<=M.size->Lw rb [cK.size,m7.size,m1.size,m.size] M:=λh=>lw hr bg
 have L5:∀{M:ah}{k:Nat},df.size<=k->k<M.size->Lw rb [k,cK.size,m7.size,m1.size,m.size] M:=λh h'=>lw hr bg
 have V7:∀{M:ah}{k:Nat},df.size<=k->k<M.size->∀c∈k::m1.size::S,c<M.size:=λh h'=>bd (xk (M:=df) ab) ab h'
 have abo:=λ(x y:Ex)=>WX.add (ds:=ds) (nf:=fs.length) (a:=q.params.length+3) (x:=x) (y:=y)
 let K:=λ(k:Nat)(M:ah)=>∃s e,BX (m1.size::S) ds fs.length (q.params.length+3) k M s e/\HX (k::m1.size::S) ds fs.length (q.params.length+3) M sl el/\Rs rb bs m (P+Cg 18) M
 have el9:∃k9,el=.mk 9 fi k9:=⟨_,Q0.symm⟩
 have er9:∃k9,er=.mk 9 fi k9:=⟨_,her.symm⟩
 clear Q0 her
 obtain⟨kl,rfl⟩:=el9
 obtain⟨kr,rfl⟩:=er9
 let A:=λ(k Q:Nat)(M:ah)=>AS (m1.size::S) ds fs.length (q.params.length+3) df.size k (P+Q) rb bs m M sl (.mk 9 fi kl) sr (.mk 9 fi kr)
 let L:=λk=>[k,cK.size,m7.size,m1.size,m.size]
 let K0:=λ(iE:Nat×Nat)(M:ah)=>iE.2=0/\df.size<=iE.1/\K iE.1 M
 let F:=λ(k:Nat)(a b:Int)(c:Sl)(M':ah)=>K0 (k,0) (ag M' k 0 [.i a,.i b,.s c])
 have H3:∀{M M':ah}{X:Prop},df.size<=M.size->Fz [rb] M M'->X->G3 M M' m7.size X:=λhz f x=>⟨G hz f ab ab,G hz f ab ab,G hz f ab ab,x⟩
 have H6:∀{M M':ah}{X:Prop},df.size<=M.size->Fz [rb] M M'->X->G3 M M' cK.size (G3 M M' m7.size X):=λhz f x=>⟨G hz f ab ab,G hz f ab ab,G hz f ab ab,H3 hz f x⟩
 have H5:∀{M M':ah}{X:Prop},df.size<=M.size->Fz [rb] M M'->X->ad M' m.size 0=ad M m.size 0/\ad M' m.size 1=ad M m.size 1/\G3 M M' m7.size X:=λhz f x=>⟨G hz f ab ab,G hz f ab ab,H3 hz f x⟩
 have H8:∀{M M':ah}{X:Prop},df.size<=M.size->Fz [rb] M M'->X->G3 M M' cK.size (ad M' m.size 0=ad M m.size 0/\ad M' m.size 1=ad M m.size 1/\G3 M M' m7.size X):=λhz f x=>⟨G hz f ab ab,G hz f ab ab,G hz f ab ab,H5 hz f x⟩
 have R7:∀{k t0:Nat}{M:ah}{e:Ex},A k (Cg 18) M->dC (aY (k::m1.size::S) M) (.mk t0 0 2 2) [.mk 9 fi kl,e]->WX ds fs.length (q.params.length+3) e->N1 (L k) t0 M (F k):=λa hs hw=>
  fS hs (abo _ _ a.l.wx hw) (L5 a.hk a.b.lt) λs' M' h' x=>by
   have hb:=(BX.mk (e:=.mk 0 0 []) (s:=.nil) (a.b.ext x) ⟨⟨rfl,aFR _,az,az⟩,.int 0⟩).set h';exact⟨rfl,a.hk,s',_,hb,(a.l.ext x).put az _ _,(a.s.ext x).put c.rd (by have:=a.hk;omega) _ _⟩
 have R6:∀{k:Nat}{M:ah}{s:Sl}{a b:Int}{kk:List Ex},A k (Cg 18) M->HX (k::m1.size::S) ds fs.length (q.params.length+3) M s (.mk a b kk)->N1 (L k) M.size (M.push (.cells (aU [.i 9,.i fi,.s sl,.i a,.i b,.s s]) aX)) (F k):=λa h=>
  R7 (a.ext (af.push _ _)) (mE [(.mk 9 fi kl,sl),(.mk _ _ _,_)] az (V7 a.hk a.b.lt) (by simp;exact⟨a.l.sl,h.sl⟩) rfl rfl) h.wx
 have R5:∀{k t0:Nat}{M:ah}{e:Ex},A k (Cg 18) M->dC (aY (k::m1.size::S) M) (.mk t0 0 2 2) [e,.mk 9 fi kr]->WX ds fs.length (q.params.length+3) e->TR5 (L k) fi sl m7.size (F k) t0 M:=λa hs hw=>
  fS hs (abo _ _ hw a.r.wx) (L5 a.hk a.b.lt) λs' M' h' x=>
   have hz:=aH7 (aG9 a.hk a.b.lt)
   H3 hz (x.fz _) (R6 (a.ext x) h')
 have R4:∀{k:Nat}{M:ah}{s:Sl}{e:Ex},A k (Cg 18) M->HX (k::m1.size::S) ds fs.length (q.params.length+3) M s e->TR4 (L k) fi sl sr m7.size (F k) e.op e.bh s M:=λ{k M s e} a h=>
  have x:=af.push M (.cells (aU [.i e.op,.i e.bh,.s s,.i 9,.i fi,.s sr]) aX)
  have hz:=aH7 (aG9 a.hk a.b.lt)
  H3 hz (x.fz _) (R5 (a.ext x) (mE [(e,s),(.mk 9 fi kr,sr)] az (V7 a.hk a.b.lt) (by simp;exact⟨h.sl,a.r.sl⟩) rfl rfl) h.wx)
 have gen:∀{S' L':List Nat}{M:ah}{w:Sl}{K':Int->Int->Sl->ah->Prop},(∀c∈S',c<M.size)->rb∈S'->Rs rb bs m P M->IR rb M w (q.params++[3,0,3])->Lw rb L' M->(∀e s M',HX S' ds fs.length (q.params.length+3) M' s e->Rd rb bs (P+Cg 18) M'->Fz [rb] M M'->K' e.op e.bh s M')->aD Tryz.prog 242 [vp rb 0,.agg #[Sl.v d,Sl.v p],Sl.v w,vi 0,vi 4] M λv M'=>da L' M M'/\∃r0 r1:Int,∃r2:Sl,v=.agg #[vi r0,vi r1,Sl.v r2]/\K' r0 r1 r2 M':=λQ3 OX r hw hL hk=>
  EM (v:=q.params++[3,0,3]) Q3 OX (c.to r.f r.r) ab hw bg ty0 aO hL λe s M' h d f=>hk e s M' (by simpa using h) d f
 have R3:∀{k:Nat}{M:ah}{w:Sl},A k 0 M->IR rb M w (q.params++[3,0,3])->TR3 (L k) rb fi sl sr d p w cK.size m7.size (F k) M:=λa hw=>
  gen (V7 a.hk a.b.lt) (by simp[dx]) a.s hw (L5 a.hk a.b.lt) λe s M' h d' f=>
   have hz:=aH7 (aG9 a.hk a.b.lt)
   H6 hz f (R4 (a.fz Qv (hkr a.hk) f d') h)
 have R2:∀{k t0:Nat}{M:ah},A k 0 M->aj (aY [rb] M) (.mk t0 0 3 3) [3,0,3]->TR2 (L k) rb fi sl sr d p ps cK.size m7.size m.size (F k) t0 M:=λa hw=>
  (cS (S:=[rb]) (by simp;exact a.s.r.lt) (PS a.s.f) hw bg).mono λ_ M'⟨w,wl,e,gw,qw,x⟩=>by
   subst qw;have hz:=aH7 (aG9 a.hk a.b.lt);exact⟨(L5 a.hk a.b.lt).cg (x.fz _),w,e,H8 hz (x.fz _) (R3 (a.ext x) (GI.done gw (by simp;exact a.s.r.lt) bg))⟩
 have new:∀{M:ah}{Q:Nat},df.size<=M.size->HX (m1.size::S) ds fs.length (q.params.length+3) M sl (.mk 9 fi kl)->HX (m1.size::S) ds fs.length (q.params.length+3) M sr (.mk 9 fi kr)->Rs rb bs m (P+Q) M->af M (M.push (.cells (aU [.i 0,.i 0,.s .nil]) aX))/\A M.size Q (M.push (.cells (aU [.i 0,.i 0,.s .nil]) aX)):=λh1 h2 h3 h4=>AS.new h1 h2 h3 h4
 have r0:Rs rb bs m (P+0) df:=O8
 have wl:∀M:ah,rb<M.size->aj (aY [rb] (M.push (.cells (aU [.i 3,.i 0,.i 3]) au))) (.mk M.size 0 3 3) [3,0,3]:=λM h=>aj.lit au _ (by simp;exact h) rfl rfl az
 refine⟨K0,⟨?_,?_⟩,?_⟩
 ·intro iC
  have fF:af df iC:=af.push _ _
  have w13:aj (aY [rb] iC) (.mk df.size 0 3 3) [3,0,3]:=wl df O8.r.lt
  clear_value iC
  have Sw:=fF.size
  have agP:=agN.ext fF;have agQ:=agO.ext fF;have Ik:=r0.ext fF
  refine H8 (aFR _) (fF.fz _) ⟨?_,?_⟩
  ·refine(cS (S:=[rb]) (by simp;exact Ik.r.lt) (PS Ik.f) w13 bg).mono λ_ gK⟨w,wl',e,gw,qw,eU⟩=>⟨(L4 Sw).cg (eU.fz _),w,e,H8 Sw (eU.fz _) ⟨?_,?_⟩⟩
   all_goals have w14:IR rb gK w (q.params++[3,0,3]):=qw▸GI.done gw (by simp;exact Ik.r.lt) (by rw[<-qw];simp;omega)
   all_goals have Sx:=eU.size
   ·refine gen (S':=m1.size::S) (xk ab) Qv (Ik.ext eU) w14 (L4 ab) λPm Re kT JB d15 f15=>H6 ab f15 ⟨?_,?_⟩
    all_goals have SN:=(agP.ext eU).fz Qv f15
    all_goals have VF:=(agQ.ext eU).fz Qv f15
    all_goals have Uu:=(Ik.ext eU).to f15 d15
    all_goals have MI:=f15.size
    ·intro pV
     have kW:af kT pV:=af.push _ _
     have abg:dC (aY (m1.size::S) pV) (.mk kT.size 0 2 2) [Pm,.mk 9 fi kr]:=mE [(Pm,Re),(.mk 9 fi kr,sr)] az (xk ab) (by simp;exact⟨JB.sl,VF.sl⟩) rfl rfl
     have z16:=kW.size
     refine H3 ab (kW.fz _) ⟨?_,?_⟩
     ·refine fS (M:=pV) abg (abo _ _ JB.wx VF.wx) (L4 ab) λs17 oB LU xl=>H3 ab (xl.fz _) ⟨?_,?_⟩
      all_goals have X:=kW.trans xl
      all_goals have z17:=xl.size
      ·intro sY
       have Ij:af oB sY:=af.push _ _
       have alT:dC (aY (m1.size::S) sY) (.mk oB.size 0 2 2) [.mk 9 fi kl,.mk 1 0 [Pm,.mk 9 fi kr]]:=mE [(.mk 9 fi kl,sl),(.mk 1 0 [Pm,.mk 9 fi kr],s17)] az (xk ab) (by simp;exact⟨(SN.ext X).sl,LU.sl⟩) rfl rfl
       have z18:=Ij.size
       refine⟨?_,?_⟩
       ·refine fS (M:=sY) alT (abo _ _ SN.wx LU.wx) (L4 ab) λs19 Pj h19 Sy=>?_
        have z19:=Sy.size
        intro Jy
        have Ud:af Pj Jy:=af.push _ _
        refine H8 ab (Ud.fz _) ?_
        intro NI
        obtain⟨LR,b21,z21⟩:=BX.new (m1:=Jy) (m2:=NI) h19 rfl rfl
        have XX:=X.trans (Ij.trans Sy)
        exact⟨rfl,by show df.size<=Pj.size;omega,s19,_,b21,(SN.ext XX).dY LR (aFR _),(Uu.ext XX).ext LR⟩
       ·obtain⟨xa,a⟩:=new (M:=sY) ab ((SN.ext X).ext Ij) ((VF.ext X).ext Ij) ((Uu.ext X).ext Ij)
        exact H8 ab (xa.fz _) (R7 a (dC.le (xa.aY λb hb=>(List.mem_cons.1 hb).elim (λh=>Or.inr ab) Or.inl) alT) LU.wx)
      ·obtain⟨xa,a⟩:=new (M:=oB) ab (SN.ext X) (VF.ext X) (Uu.ext X)
       exact H8 ab (xa.fz _) (R6 a (LU.dY xa (aFR _)))
     ·obtain⟨xa,a⟩:=new (M:=pV) ab (SN.ext kW) (VF.ext kW) (Uu.ext kW)
      exact H8 ab (xa.fz _) (R5 a (dC.le (xa.aY λb hb=>(List.mem_cons.1 hb).elim (λh=>Or.inr ab) Or.inl) abg) JB.wx)
    ·obtain⟨xa,a⟩:=new (M:=kT) ab SN VF Uu
     exact H8 ab (xa.fz _) (R4 a (JB.dY xa (aFR _)))
   ·obtain⟨xa,a⟩:=new (M:=gK) ab (agP.ext eU) (agQ.ext eU) (Ik.ext eU)
    exact H8 ab (xa.fz _) (R3 a (w14.le (fh (xa.fz _))))
  ·obtain⟨xa,a⟩:=new (M:=iC) Sw agP agQ Ik
   exact H8 Sw (xa.fz _) (R2 a (w13.le (fh (xa.fz _))))
 ·obtain⟨xa,a⟩:=new (M:=df) (aFR _) agN agO r0
  have za:=xa.size
  intro iC
  refine H8 (aFR _) (xa.fz _) ?_
  intro gK
  have eU:af iC gK:=af.push _ _
  exact H8 za (eU.fz _) (R2 (a.ext eU) (wl iC a.s.r.lt))
 rintro⟨k,o⟩ M ⟨ho,hk,s,e,b,hl,r⟩
 simp only at ho hk b hl
 subst ho
 have bl:=b.b.lt
 have hkb:=hkr hk
 have L4':∀{M':ah},M.size<=M'.size->Lw rb [cK.size,m7.size,m1.size,m.size] M':=λh=>L4 ab
 have hz:df.size<=M.size:=ab
 have uE:∀{M':ah},M.size<=M'.size->∀c∈k::m1.size::S,c<M'.size:=λh=>V7 hk ab
 refine⟨λM'=>∃s e,BX (m1.size::S) ds fs.length (q.params.length+3) k M' s e/\Rs rb bs m (P+2*Cg 18) M'/\M.size<=M'.size,⟨ab,ab,_,E1 r.f,λ_=>?_,λ_=>⟨s,e,b,⟨r.f,r.r.mono ab⟩,aFR _⟩⟩,?_⟩
 ·intro iC
  have fF:af M iC:=af.push _ _
  have w13:aj (aY [rb] iC) (.mk M.size 0 3 3) [3,0,3]:=wl M r.r.lt
  clear_value iC
  have Sw:=fF.size
  have Ik:=r.ext fF
  refine H5 hz (fF.fz _) ?_
  refine(cS (S:=[rb]) (by simp;exact Ik.r.lt) (PS Ik.f) w13 bg).mono λ_ gK⟨w,wl',e',gw,qw,eU⟩=>⟨(L4' Sw).cg (eU.fz _),w,e',H5 ab (eU.fz _) ?_⟩
  have w14:IR rb gK w (q.params++[3,0,3]):=qw▸GI.done gw (by simp;exact Ik.r.lt) (by rw[<-qw];simp;omega)
  have Sx:=eU.size
  have ZV:=Ik.ext eU
  refine EM (v:=q.params++[3,0,3]) (S:=k::m1.size::S) (uE ab) (by simp[dx]) (c.to ZV.f ZV.r) ab w14 bg ty0 aO (L4' ab) λPm Re kT JB d15 f15=>H3 ab f15 ?_
  have JB:HX (k::m1.size::S) ds fs.length (q.params.length+3) kT Re Pm:=by simpa using JB
  have MI:=f15.size
  refine uv (k::m1.size::S) ds fs.length (a:=q.params.length+3) (L4' ab) ab λs16 pV FI kW=>H3 ab (kW.fz _) ?_
  intro oB
  have xl:af pV oB:=af.push _ _
  have z16:=kW.size
  have Vr:=(((hl.ext fF).ext eU).fz (by simp[dx]) f15).ext kW
  have hs:dC (aY (k::m1.size::S) oB) (.mk pV.size 0 3 3) [.mk 9 fi kl,Pm,.mk 12 (ps.len+2) []]:=mE [(.mk 9 fi kl,sl),(Pm,Re),(.mk 12 (ps.len+2) [],s16)] az (uE ab) (by simp;exact⟨Vr.sl,(JB.ext kW).sl,FI.sl⟩) rfl rfl
  have z17:=xl.size
  refine fS (M:=oB) hs (.Pc (by simp;exact⟨Vr.wx,JB.wx,FI.wx⟩)) (L4' ab) λs18 sY Vw Ij=>?_
  have b18:=((((b.ext fF).ext eU).fz (by simp[dx]) hkb f15).ext (kW.trans xl)).ext Ij
  have hb:=b18.set Vw
  have r18:=(((ZV.to f15 d15).ext (kW.trans xl)).ext Ij).put c.rd (k:=k) ab 0 [.i 6,.i 3,.s s18]
  exact⟨b18.b.dW az,λb' jx=>aP _ _ _ _ (by simp at jx;omega),s18,.mk 6 3 [.mk 9 fi kl,Pm,.mk 12 (ps.len+2) []],hb,⟨r18.f,r18.r.mono ab⟩,by rw[aq];have:=Ij.size;omega⟩
 rintro M3 ⟨s,e,b,r,z⟩
 refine⟨ab,ab,_,E1 r.f,_,b.b.bH 0,_,b.b.bH 1,_,b.b.bH 2,?_⟩
 refine uv (m1.size::S) ds fs.length (a:=q.params.length) (L4' z) ab λRb iC uJ fF=>?_
 have Sw:=fF.size
 have gk2:∀{M1 M2:ah}{o:Nat},M.size<=M1.size->Fz [rb] M1 M2->ad M2 k o=ad M1 k o:=λh f=>kg f hr ⟨ab,ab⟩ _
 refine⟨gk2 z (fF.fz _),gk2 z (fF.fz _),gk2 z (fF.fz _),(E1 (r.f.then fF)).trans (E1 r.f).symm,G ab (fF.fz _) ab ab,G ab (fF.fz _) ab ab,G ab (fF.fz _) ab ab,?_⟩
 have Ik:=r.ext fF
 refine EM (S:=m1.size::S) (xk ab) Qv (c.to Ik.f Ik.r) ab (PS Ik.f) ab (c.gp.ty vL.2.2.1 vL.2.2.2) aO (L4' ab) λQ9 V9 gK xh d14 f14=>⟨gk2 ab f14,gk2 ab f14,gk2 ab f14,?_⟩
 have Sx:=f14.size
 intro kT
 have lp:af gK kT:=af.push _ _
 have b14:=(b.ext fF).fz Qv hkb f14
 have hs:dC (aY (m1.size::S) kT) (.mk gK.size 0 3 3) [.mk 12 0 [],Q9,e]:=mE [(.mk 12 0 [],Rb),(Q9,V9),(e,s)] az (xk ab) (by simp;exact⟨(uJ.fz Qv f14).sl,xh.sl,b14.h.eE.sl⟩) rfl rfl
 refine fS (M:=kT) hs (.m3 c.gp.ds uJ.wx xh.wx b.h.wx) (L4' (by have:=lp.size;omega)) λs16 pV FI kW=>?_
 exact FI.fG (((Ik.to f14 d14).ext lp).ext kW) c.rd ab ab
end
end
section
section
variable{S:List Nat}{rb P:Nat}{bs d p:Sl}{ds:List aS}{fs:List bY}{m:ah}
theorem Mx(hS:∀c∈S,c<m.size)(dx:rb∈S)(c:GC rb bs P d p ds fs m)(hP:P+300+40*Cg 18<=10000000000000000){fi:Nat}{q:bY}(hq:fs[fi]? =some q)(Pl:fi=0->q.params.length=0):
 aD Tryz.prog 181 [vp rb 0,.agg #[Sl.v d,Sl.v p],vi fi] m (XP S rb bs m (P+300+40*Cg 18) (Fit ds fs.length q.params.length)):=by
 apply Eb (rb,0)
 simp -zeta only[aw,ax]
 intro m1 m2
 obtain⟨x2,hl⟩:=cv (m1:=m1) (m2:=m2) rfl rfl
 have s1:m1.size=m.size+1:=by simp[m1]
 have s2:m2.size=m.size+2:=by simp[m2,s1]
 have hr:=c.rd.lt
 clear_value m2
 have xk:∀{M:ah},m2.size<=M.size->∀c∈m1.size::S,c<M.size:=λh=>bd hS ab ab
 have r2:Rs rb bs m P m2:=⟨x2.fz _,c.rd.ext x2⟩
 have L1:∀{M:ah},m2.size<=M.size->Lw rb [m1.size,m.size] M:=λh=>lw hr bg
 obtain⟨ps,Rc,e0,e1⟩:=c.hp.aE hq
 have gL:=ap hq
 have tA:=c.hp.len
 have vL:=vG _ (c.gp.cq q (ak hq))
 have h3:q.params.length<=3:=vL.1
 have PS:∀{M:ah},Fz [rb] m M->IR rb M ps q.params:=λf=>Rc.le (fh f)
 have agJ:=Rc.len
 have Qv:rb∈m1.size::S:=by simp[dx]
 have tyr:=c.gp.ty vL.2.2.1 vL.2.2.2
 refine⟨ab,ab,ps,(cT.1 (fh r2.f _ _ _ e0)).2,ab,ab,_,(cT.1 (fh r2.f _ _ _ e1)).2,?_⟩
 refine(KB ((PS r2.f).le (aV _ _)) 1).mono λ_ m3⟨pl,en,alV,x3⟩=>⟨(L1 (aFR _)).cg (x3.fz _),pl,en,?_⟩
 have z3:=x3.size
 refine HZ (m1.size::S) ds fs.length q.params.length (L1 z3) 0 λs4 m4 h4 x4=>?_
 have z4:=x4.size
 intro m5 m6
 obtain⟨x6,b6,z6⟩:=BX.new (m1:=m5) (m2:=m6) h4 rfl rfl
 clear_value m6
 have r6:=((r2.ext x3).ext x4).ext x6
 have hk:m4.size≠rb:=ab
 have L6:∀{M:ah},m6.size<=M.size->Lw rb [m4.size,m1.size,m.size] M:=λh=>lw hr bg
 refine(bo r6.r ab 4).mono λ_ m7⟨n,en,_,_,d7,f7⟩=>⟨(L6 (aFR _)).cg f7,n,en,?_⟩
 have r7:=r6.to f7 d7
 have z7:=f7.size
 have c7:=c.to r7.f r7.r
 have b7:=b6.fz Qv hk f7
 have Po:∀e∈m4.size::m1.size::S,e<m7.size:=bd (xk (M:=m7) ab) (aFR _) ab
 have Q5:rb∈m4.size::m1.size::S:=by simp[dx]
 have fG:∀{f:Nat}{args:List Value}{Q:Nat},aD Tryz.prog f args m7 (XP (m4.size::m1.size::S) rb bs m7 Q (WX ds fs.length q.params.length))->Q<=P+300+20*Cg 18->aD Tryz.prog f args m7 λv M'=>da [m4.size,m1.size,m.size] m7 M'/\∃r0 r1:Int,∃r2:Sl,v=.agg #[vi r0,vi r1,Sl.v r2]/\
  ∃s e,BX (m1.size::S) ds fs.length q.params.length m4.size (ag M' m4.size 0 [.i r0,.i r1,.s r2]) s e/\Rs rb bs m (P+300+20*Cg 18) (ag M' m4.size 0 [.i r0,.i r1,.s r2])/\m6.size<=(ag M' m4.size 0 [.i r0,.i r1,.s r2]).size:=λh hQ=>
  XP.kk h (L6 z7) λs e M' h1 h2 h3 h4=>by
   have hb:=(b7.fz Qv hk h4).set ⟨h1,h2⟩;have OX:=(r7.to h4 h3).put c.rd (k:=m4.size) ab 0 [.i e.op,.i e.bh,.s s];exact⟨s,e,hb,⟨OX.f,OX.r.mono hQ⟩,by rw[aq];have:=h4.size;omega⟩
 have zc:=λ(M:ah)(S':List Nat)(h1:∀e∈S',e<M.size)(h2:rb∈S')(Q:Nat)(cM:GC rb bs Q d p ds fs M)(f:Fz [rb] m M)(hQ:Q+20*Cg 18<=10000000000000000)(b:Int)(hb:0<=b/\b<=18)=>KH (S:=S') h1 h2 cM hQ (PS f) ab tyr hb
 have Uv:=fG ((zc m7 _ Po Q5 _ c7 r7.f ab 18 aO).mono λ_ _ h=>h.mono (λe he=>he.1) (aFR _)) ab
 have first:1<=q.params.length->∃y:Int,q.params[0]? =some y/\ad m7 ps.ao (ps.off+Int.toNat 0*1)=some (vi y):=λh=>by
  obtain⟨y,hy⟩:=ae (l:=q.params) (k:=0) ab;exact⟨y,hy,(cT.1 ((PS r7.f).aE hy)).2⟩
 refine⟨λM=>∃s e,BX (m1.size::S) ds fs.length q.params.length m4.size M s e/\Rs rb bs m (P+300+20*Cg 18) M/\m6.size<=M.size,?_,?_⟩
 ·refine⟨λv M=>(v=true->fi=0)/\m7=M,⟨λ_=>⟨λh=>by simp at h;omega,rfl⟩,λ_=>⟨λh=>by simp at h,rfl⟩⟩,?_⟩
  rintro v _ ⟨hv,rfl⟩
  refine⟨λh=>?_,λ_=>?_⟩
  ·have h0:=Pl (hv h)
   exact fG ((I5 Po Q5 c7 ab).mono λ_ _ h=>h.mono (λe he=>by rw[h0];exact he) (aFR _)) ab
  refine⟨λv M=>(v=true->0<=pl)/\m7=M,⟨λ_=>⟨λh=>⟨λ_=>⟨λ_=>by simpa using h,rfl⟩,λ_=>⟨λ_=>by simpa using h,rfl⟩⟩,λ_=>⟨az,rfl⟩⟩,λ_=>⟨az,rfl⟩⟩,?_⟩
  rintro v _ ⟨hv,rfl⟩
  refine⟨λh=>fG (I7 Po Q5 c7 ab hq ⟨hv h,ab⟩) ab,λ_=>?_⟩
  refine⟨λv M=>(v=true->1<=q.params.length)/\m7=M,⟨λ_=>⟨λh=>?_,λ_=>⟨az,rfl⟩⟩,λ_=>⟨az,rfl⟩⟩,?_⟩
  ·simp only[aFP]at h
   obtain⟨y,hy,gy⟩:=first ab
   exact⟨aO,ab,y,gy,λ_=>⟨λ_=>⟨λ_=>ab,rfl⟩,λ_=>⟨λ_=>ab,rfl⟩⟩,λ_=>⟨az,rfl⟩⟩
  rintro v _ ⟨hv,rfl⟩
  refine⟨λh=>fG (I8 Po Q5 c7 ab hq (hv h)) ab,λ_=>⟨λ_=>⟨λh=>?_,λ_=>Uv⟩,λ_=>Uv⟩⟩
  simp only[aFP]at h
  obtain⟨y,hy,gy⟩:=first ab
  have down:=fG (I6 Po Q5 c7 ab hq ab) ab
  exact⟨aO,ab,y,gy,λ_=>⟨λ_=>down,λ_=>⟨λ_=>down,λ_=>Uv⟩⟩,λ_=>Uv⟩
 rintro M ⟨s,e,b,r,z⟩
 refine⟨_,b.b.bH 0,_,b.b.bH 1,_,b.b.bH 2,?_⟩
 refine(zi (dC.le (aV _ _) b.h.sl)).mono λ_ m8⟨n8,e8,q8,x8⟩=>⟨(L1 ab).cg (x8.fz _),n8,e8,?_⟩
 have z8:=x8.size
 have r8:=r.ext x8
 have b8:=b.ext x8
 refine⟨λ_=>?_,λh=>⟨_,b8.b.bH 0,_,b8.b.bH 1,_,b8.b.bH 2,?_⟩⟩
 ·exact XP.ret (zc m8 (m1.size::S) (xk ab) Qv _ (c.to r8.f r8.r) r8.f ab 12 aO) (L1 ab) r8.f c.rd ab (λ_ h=>h) ab
 ·simp only[aFQ]at h
  have r9:=r8.put c.rd (k:=m1.size) ab 0 [.i e.op,.i e.bh,.s s]
  exact⟨s,e,rfl,(b8.h.eE.put az _ _).eE.sl,⟨b.h.wx,ab⟩,r9.r.mono ab,r9.f⟩
end
theorem zW{α:Type}{R:ah->List Ce->α->Prop}{sz:Nat}(hR:lV sz R){S:List Nat}{M:ah}(hS:∀c∈S,c<M.size)(e:Nat)(l:List (α×List Ce))(h:∀x∈l,R (aY S M) x.2 x.1){cs:List Ce}{n:Nat}(kJ:cs=l.flatMap (·.2))(hn:n=l.length):
 Gr S M (M.push (.cells (aU cs) e)) e sz R (.mk M.size 0 n n) (l.map (·.1)):=by
 refine Gr.lit (css:=l.map (·.2)) hR (aFR _) hS (by rw[kJ,List.flatMap_def]) (by simp[hn]) ⟨az,λc hc=>?_,λj c e hj he=>?_⟩
 ·simp at hc;obtain⟨a,ha⟩:=hc;exact hR.len (h _ ha)
 ·simp only[aGb,aGN]at hj he
  obtain⟨x,hx,rfl⟩:=hj
  obtain⟨y,hy,rfl⟩:=he
  rw[hx]at hy;simp at hy;subst hy
  exact h x (ak hx)
abbrev CSl(m:ah)(s:Sl)(l:List (List Int)):Prop:=cY m 1 (ka m) s l
theorem vH{S:List Nat}{M:ah}(hS:∀c∈S,c<M.size)(e:Nat)(l:List (List Int×Sl))(hl:l.length<=1000)(h:∀x∈l,aj (aY S M) x.2 x.1){cs:List Ce}{n:Nat}(kJ:cs=l.map λx=>.s x.2)(hn:n=l.length):CSl (aY S (M.push (.cells (aU cs) e))) (.mk M.size 0 n n) (l.map (·.1)):=by
 have H:=zW (R:=λm cs x=>ka m cs x) (sz:=1) ⟨λh=>ka.le h _ _,λ⟨_,h,_⟩=>by rw[h];rfl⟩ hS e (l.map λx=>(x.1,[Ce.s x.2])) (λx hx=>by simp at hx;obtain⟨a,b,pW,rfl⟩:=hx;exact⟨_,rfl,h _ pW⟩) (cs:=cs) (n:=n) (by rw[kJ];clear kJ hn h hl;induction l<;>simp_all) (by simp[hn]);have H2:=Gr.done ka.mono H hS aO bg;rwa[show(l.map λx=>(x.1,[Ce.s x.2])).map (·.1)=l.map (·.1)by simp[aIr,Function.comp_def]]at H2
abbrev GDl(S:List Nat)(m0 m:ah)(s:Sl)(l:List aS):Prop:=Gr S m0 m gR 3 eX s l
end
section
section
variable{S L:List Nat}{rb P:Nat}{bs:Sl}{m M:ah}
theorem Nl{K:Sl->ah->Prop}(f:Sl)(hL:∀b∈L,b<M.size)(hk:∀M',af M M'->K f M'):aD Tryz.prog 101 [Sl.v f] M λv M'=>da L M M'/\∃r0:Sl,v=.agg #[Sl.v r0]/\K r0 M':=
 (KC f M).mono λ_ M'⟨e,x⟩=>⟨x.cg hL,f,e,hk M' x⟩
theorem BH{K:Sl->ah->Prop}(f:Sl)(hk:∀M',af M M'->K f M'):aD Tryz.prog 101 [Sl.v f] M λv M'=>∃r0:Sl,v=.agg #[Sl.v r0]/\K r0 M':=
 (KC f M).mono λ_ M'⟨e,x⟩=>⟨f,e,hk M' x⟩
theorem uw(hS:∀c∈S,c<m.size)(dx:rb∈S)(h0:Rd rb bs P m)(hP:P+1<=10000000000000000):
 aD Tryz.prog 100 [vp rb 0] m λv m'=>∃s ds,v=Sl.v s/\GDl S m m' s ds/\ds∈pL/\Rd rb bs (P+1) m'/\Fz [rb] m m':=by
 apply yo (rb,0)
 simp -zeta only[aw,ax]
 have hr:=h0.lt
 have YS:∀{M:ah},m.size<=M.size->∀c∈S,c<M.size:=λh c hc=>by have:=hS c hc;omega
 have I:∀(M:ah)(l:List Int)(cs:List Ce)(n:Nat),m.size<=M.size->cs=l.map Ce.i->n=l.length->l.length<=1000->aj (aY S (M.push (.cells (aU cs) au))) (.mk M.size 0 n n) l:=λM l cs n h h1 h2 h3=>aj.lit au l (YS h) h1 h2 ab
 have N:∀(M:ah)(b:Nat),aj (aY S M) (.mk b 0 0 0) []:=λM b=>jM _ _ _ _ _ _
 intro m1
 have x1:af m m1:=af.push _ _
 refine BH _ λm2 x2=>?_
 intro m3
 have x3:af m2 m3:=af.push _ _
 have z2:=(x1.trans x2).size
 have i3:aj (aY S m3) (.mk m2.size 0 2 2) [0,1]:=I m2 [0,1] _ _ z2 rfl rfl aO
 clear_value m3
 refine BH _ λm4 x4=>?_
 intro m5
 have x5:af m4 m5:=af.push _ _
 have z4:=(x3.trans x4).size
 have c5:CSl (aY S m5) (.mk m4.size 0 2 2) [[],[0,1]]:=vH (YS ab) _ [([],.mk m.size 0 0 0),([0,1],.mk m2.size 0 2 2)] az (by simp;exact⟨N _ _,i3.le (x4.bO _)⟩) rfl rfl
 clear_value m5
 intro m6 m7
 obtain⟨x7,-,z7⟩:=iA (M:=m5) (m1:=m6) (m2:=m7) rfl rfl rfl
 clear_value m7
 have z5:=x5.size
 intro m8
 have x8:af m7 m8:=af.push _ _
 clear_value m8
 have z8:=x8.size
 refine Nl _ bg λm9 x9=>?_
 intro cK
 have cO:af m9 cK:=af.push _ _
 have z9:=x9.size
 have i10:aj (aY S cK) (.mk m9.size 0 3 3) [3,0,3]:=I m9 [3,0,3] _ _ ab rfl rfl aO
 clear_value cK
 have wh:=cO.size
 refine Nl _ bg λdm eB=>?_
 intro df
 have fW:af dm df:=af.push _ _
 have xw:=eB.size
 have c12:CSl (aY S df) (.mk dm.size 0 2 2) [[],[3,0,3]]:=vH (YS ab) _ [([],.mk m7.size 0 0 0),([3,0,3],.mk m9.size 0 3 3)] az (by simp;exact⟨N _ _,i10.le (eB.bO _)⟩) rfl rfl
 clear_value df
 intro iC gK
 obtain⟨eU,-,Sx⟩:=iA (M:=df) (m1:=iC) (m2:=gK) rfl rfl rfl
 clear_value gK
 have MH:=fW.size
 have LL:∀{M:ah},gK.size<=M.size->∀b∈[df.size,m5.size],b<M.size:=λh=>bg
 intro kT
 have lp:af gK kT:=af.push _ _
 have i15:aj (aY S kT) (.mk gK.size 0 2 2) [1,3]:=I gK [1,3] _ _ ab rfl rfl aO
 clear_value kT
 have MI:=lp.size
 refine Nl _ (LL MI) λpV kW=>?_
 intro oB
 have xl:af pV oB:=af.push _ _
 have z16:=kW.size
 have c17:CSl (aY S oB) (.mk pV.size 0 1 1) [[1,3]]:=vH (YS ab) _ [([1,3],.mk gK.size 0 2 2)] az (by simp;exact i15.le (kW.bO _)) rfl rfl
 clear_value oB
 have z17:=xl.size
 intro sY
 have Ij:af oB sY:=af.push _ _
 have i18:aj (aY S sY) (.mk oB.size 0 3 3) [1,1,0]:=I oB [1,1,0] _ _ ab rfl rfl aO
 clear_value sY
 have z18:=Ij.size
 refine Nl _ (LL ab) λPj Sy=>?_
 intro Jy
 have Ud:af Pj Jy:=af.push _ _
 have z19:=Sy.size
 have i20:aj (aY S Jy) (.mk Pj.size 0 1 1) [0]:=I Pj [0] _ _ ab rfl rfl aO
 clear_value Jy
 have z20:=Ud.size
 refine Nl _ (LL ab) λNI LR=>?_
 intro QG
 have x22:af NI QG:=af.push _ _
 have z21:=LR.size
 have i22:aj (aY S QG) (.mk NI.size 0 1 1) [3]:=I NI [3] _ _ ab rfl rfl aO
 clear_value QG
 have z22:=x22.size
 refine Nl _ (LL ab) λVp OW=>?_
 intro Ph
 have Lr:af Vp Ph:=af.push _ _
 have z23:=OW.size
 have c24:CSl (aY S Ph) (.mk Vp.size 0 3 3) [[1,1,0],[0],[3]]:=vH (YS ab) _ [([1,1,0],.mk oB.size 0 3 3),([0],.mk Pj.size 0 1 1),([3],.mk NI.size 0 1 1)] az (by simp;exact⟨i18.le ((((((Sy.trans Ud).trans LR).trans x22).trans OW)).bO _),i20.le (((LR.trans x22).trans OW).bO _),i22.le (OW.bO _)⟩) rfl rfl
 clear_value Ph
 have z24:=Lr.size
 have X18:=(((((Ij.trans Sy).trans Ud).trans LR).trans x22).trans OW).trans Lr
 have X13:=(((eU.trans lp).trans kW).trans xl).trans X18
 have X5:=(((((x7.trans x8).trans x9).trans cO).trans eB).trans fW).trans X13
 have cle:∀{A B:ah}{s:Sl}{l:List (List Int)},af A B->CSl (aY S A) s l->CSl (aY S B) s l:=λx h=>cY.le h (x.bO _) (ka.le (x.bO _))
 have QS:CSl (aY S Ph) .nil []:=⟨rfl,aFR _,az,az⟩
 intro Jk
 have Ii:af Ph Jk:=af.push _ _
 have g25:br (aY S Jk) (.mk Ph.size 0 4 4) TE:=(zW (R:=eX) eX.mono (YS (M:=Ph) ab) gR [(⟨0,0,[[1,3]]⟩,[.i 0,.i 0,.s (.mk pV.size 0 1 1)]),(⟨1,0,[]⟩,[.i 1,.i 0,.s .nil]),(⟨0,0,[[1,1,0],[0],[3]]⟩,[.i 0,.i 0,.s (.mk Vp.size 0 3 3)]),(⟨0,1,[]⟩,[.i 0,.i 1,.s .nil])] (by simp;exact⟨⟨_,rfl,cle X18 c17⟩,⟨_,rfl,QS⟩,⟨_,rfl,c24⟩,⟨_,rfl,QS⟩⟩) rfl rfl).done eX.mono (YS ab) aO aO
 clear_value Jk
 have z25:=Ii.size
 intro NG
 have Ub:af Jk NG:=af.push _ _
 have VT:GDl S Jk NG (.mk Jk.size 0 3 3) KE:=zW (R:=eX) eX.mono (YS (M:=Jk) ab) gR [(⟨0,0,[[],[0,1]]⟩,[.i 0,.i 0,.s (.mk m4.size 0 2 2)]),(⟨0,0,[]⟩,[.i 0,.i 0,.s .nil]),(⟨0,0,[[],[3,0,3]]⟩,[.i 0,.i 0,.s (.mk dm.size 0 2 2)])] (by simp;exact⟨⟨_,rfl,cle (X5.trans Ii) c5⟩,⟨_,rfl,cle Ii QS⟩,⟨_,rfl,cle (X13.trans Ii) c12⟩⟩) rfl rfl
 clear_value NG
 have X:=((((x1.trans x2).trans x3).trans x4).trans x5).trans (X5.trans (Ii.trans Ub))
 have z26:=Ub.size
 have L26:Lw rb [df.size,m5.size] NG:=λb hb=>⟨LL ab b hb,by simp at hb;omega⟩
 refine(bo (h0.ext X) ab 5).mono λ_ Q4⟨k,e,k0,k1,d27,f27⟩=>⟨L26.cg f27,k,e,λh=>?_,λ_=>⟨_,KE,rfl,Gr.bN eX.mono (VT.eg eX.mono f27 (by simp;exact⟨dx,ab⟩)) (λ_ h=>Or.inl h) ab,by simp[pL],d27,(X.fz _).trans f27⟩⟩
 simp only[aFP]at h
 obtain⟨q,hq⟩:=ae (l:=TE) (k:=k.toNat) (by simp[TE];omega)
 have hle:Le (aY S Jk) (aY (Jk.size::S) Q4):=(Ub.aY λb hb=>(List.mem_cons.1 hb).elim (λh=>Or.inr ab) Or.inl).trans (f27.bO (by simp[dx]))
 obtain⟨f,hf,e0,e1,e2⟩:=(g25.le hle).aE hq
 refine⟨k0,bg,_,(cT.1 e0).2,_,(cT.1 e1).2,_,(cT.1 e2).2,?_⟩
 intro m28
 have g27:GDl S Jk Q4 (.mk Jk.size 0 3 3) KE:=VT.eg eX.mono f27 (by simp;exact⟨dx,ab⟩)
 have hz:=f27.size
 have rI:KE++[q]∈pL:=by
  have:=ak hq;simp only[pL,aF0,aIq];exact Or.inr ⟨q,this,rfl⟩
 refine Gr.iN (zs:=[.i 0,.i 0,.s .nil]) (a:=q) eX.mono aO g27 ((Ub.fz _).trans f27) ⟨f,rfl,hf⟩ (by simp[KE]) λr M' g' f' z' q'=>?_
 have F:=((((((x1.trans x2).trans x3).trans x4).trans x5).trans (X5.trans Ii)).fz [rb]).trans f'
 have L25:Lw rb [df.size,m5.size] Jk:=λb hb=>⟨LL ab b hb,by simp at hb;omega⟩
 exact⟨L25.CZ (((Ub.fz [rb]).trans f27).then (af.push Q4 _)) f',r,_,rfl,Gr.bN eX.mono g' (λ_ h=>Or.inl h) ab,rI,h0.Mr d27 F (q' rb d27.lt (by show rb≠Jk.size;omega)),F⟩
end
end
section
def Qe(M:ah)(cs:List Ce)(x:bY×Option Ex):Prop:=∃a n k z,cs=[.s a,.i x.1.aH,.i n,.i k,.s z]/\aj M a x.1.params/\∀e,x.2=some e->n=e.op/\k=e.bh/\dC M z e.aW
theorem Qe.mono:lV 5 Qe:=⟨λh⟨a,n,k,z,e,h1,h2⟩=>⟨a,n,k,z,e,h1.le h,λx hx=>let⟨h3,h4,h5⟩:=h2 x hx;⟨h3,h4,dC.le h h5⟩⟩,λ⟨_,_,_,_,e,_⟩=>by rw[e];rfl⟩
def FuR(M:ah)(cs:List Ce)(x:bY×Ex):Prop:=∃a s,cs=[.s a,.i x.1.aH,.i x.2.op,.i x.2.bh,.s s]/\aj M a x.1.params/\dC M s x.2.aW
theorem FuR.mono:lV 5 FuR:=⟨λh⟨a,s,e,h1,h2⟩=>⟨a,s,e,h1.le h,dC.le h h2⟩,λ⟨_,_,e,_⟩=>by rw[e];rfl⟩
abbrev afl(m:ah)(s:Sl)(l:List (bY×Ex)):Prop:=cY m 5 (FuR m) s l
structure afm(ds:List aS)(l:List (bY×Ex)):Prop where
 gp:GP ds (l.map (·.1))
 zc:∀x∈l,Fit ds l.length x.1.params.length x.2
theorem Gr.ao9{α:Type}{S:List Nat}{m0 m:ah}{e sz b n c k:Nat}{R:ah->List Ce->α->Prop}{l:List α}(hz:0<sz)(h:Gr S m0 m e sz R (.mk b 0 n c) l)(hk:k<=n):Gr S m0 m e sz R (.mk b 0 k c) (l.take k):=by
 have hn:=h.len hz;obtain⟨-,css,h1,h2⟩:=h;simp only[Sl.eO]at hn;have pt:css.length=n:=by rw[h2.len];omega
 rcases h1.aE with h3|⟨b',c',tail,h3,h4,h5,h6,h7⟩
 ·simp at h3
 simp only[Sl.eO,Sl.mk.injEq]at h3 h7;obtain⟨rfl,-,-,rfl⟩:=h3;have e0:css.flatten=(css.take k).flatten++(css.drop k).flatten:=by rw[<-aHr,aGi]
 have hs:∀c∈css.take k,c.length=sz:=λc hc=>h2.size c (aGk hc);refine⟨az,css.take k,⟨by rw[bZ hs,aGH,pt,aGV hk];rfl,Or.inr ⟨b,c,(css.drop k).flatten++tail,az,h4,by rw[<-aGs,<-e0];exact h5,by rw[<-aGs,<-e0];exact h6,bg⟩⟩,?_,hs,λj x y hx hy=>?_⟩
 ·rw[aGH,aGH,h2.len]
 ·rw[aHb]at hx hy;split at hx
  ·rename_i hj;rw[aFW hj]at hy;exact h2.cq j x y hx hy
  ·simp at hx
section
variable{S L:List Nat}{rb P:Nat}{bs:Sl}{m M:ah}
theorem pb{K:Sl->Int->Int->Int->Sl->ah->Prop}(l:List Int)(r:Int)(hS:∀c∈S,c<M.size)(hL:∀b∈L,b<M.size)(hl:l.length<=1000){cs:List Ce}{n:Nat}(kJ:cs=l.map Ce.i)(hn:n=l.length)(hk:∀M',af M M'->aj (aY S M') (.mk M.size 0 n n) l->K (.mk M.size 0 n n) r 0 0 .nil M'):
 aD Tryz.prog 180 [Sl.v (.mk M.size 0 n n),vi r] (M.push (.cells (aU cs) au)) λv M'=>da L (M.push (.cells (aU cs) au)) M'/\∃r0:Sl,∃r1:Int,∃r2:Int,∃r3:Int,∃r4:Sl,v=.agg #[Sl.v r0,vi r1,vi r2,vi r3,Sl.v r4]/\K r0 r1 r2 r3 r4 M':=
 have x0:=af.push M (.cells (aU cs) au)
 (RS _ r _).mono λ_ M'⟨e,x⟩=>⟨x.cg λb hb=>x0.lt (hL b hb),_,_,_,_,_,e,hk M' (x0.trans x) ((aj.lit au l hS kJ hn ab).le (x.bO _))⟩
def wa(ps:List Int)(r:Int):bY:=⟨ps,[],r,0,[]⟩
theorem W7.mono:lV 5 W7:=⟨λh=>W7.le h,λ⟨_,_,_,_,e,_⟩=>by rw[e];rfl⟩
theorem R1(l:List (bY×Sl))(hS:∀c∈S,c<M.size)(h:∀x∈l,aj (aY S M) x.2 x.1.params)(hl:l.length<=1000){cs:List Ce}{n:Nat}(kJ:cs=l.flatMap λx=>[.s x.2,.i x.1.aH,.i 0,.i 0,.s .nil])(hn:n=l.length):nA (aY S (M.push (.cells (aU cs) dt))) (.mk M.size 0 n n) (l.map (·.1)):=by
 have H:=(zW (R:=W7) W7.mono hS dt (l.map λx=>(x.1,[Ce.s x.2,.i x.1.aH,.i 0,.i 0,.s .nil])) (λx hx=>by simp at hx;obtain⟨a,b,pW,rfl⟩:=hx;exact⟨_,_,_,_,rfl,h _ pW⟩) (cs:=cs) (n:=n) (by rw[kJ,List.flatMap_map]) (by simp[hn])).done W7.mono hS aO bg;rwa[show(l.map λx=>(x.1,[Ce.s x.2,.i x.1.aH,.i 0,.i 0,.s .nil])).map (·.1)=l.map (·.1)by simp[aIr,Function.comp_def]]at H
end
end
section
def aar:List bY:=[wa [1] 0,wa [1,1] 1,wa [1] 1,wa [1,0] 1,wa [2,1] 1,wa [1,1] 0]
def aas:List bY:=[wa [3] 0,wa [0] 1,wa [0,1] 1,wa [3,0] 3,wa [3] 1,wa [1,3,0] 0]
def Oz:List bY:=[wa [0] 0,wa [0,0] 0,wa [1,0] 0,wa [0] 1]
theorem R8:(∀q∈aar,(q.params,q.aH)∈Qc)/\(∀q∈aas,(q.params,q.aH)∈Qc)/\∀q∈Oz,(q.params,q.aH)∈Qc:=aO
theorem OA{α:Type}{l:List α}{k:Nat}{x:α}(h:l[k]? =some x):l.set k x=l:=aGC λi=>by
 rw[aGR];split
 ·rename_i e;subst e;rw[aFW (ap h),h]
 ·rfl
section
variable{S:List Nat}{rb P:Nat}{bs:Sl}{m:ah}
theorem Dd(hS:∀c∈S,c<m.size)(dx:rb∈S)(h0:Rd rb bs P m)(hP:P+10+4*(300+40*Cg 18)<=10000000000000000):
 aD Tryz.prog 157 [vp rb 0] m λv m'=>∃d p ds l,v=.agg #[Sl.v d,Sl.v p]/\br (aY S m') d ds/\afl (aY S m') p l/\afm ds l/\Rd rb bs (P+10+4*(300+40*Cg 18)) m'/\Fz [rb] m m':=by
 apply vj (rb,0)
 unfold pT
 simp(config:={zeta:=false,maxSteps:=2000000}) only[aw,ax]
 have hr:=h0.lt
 intro m1
 have x1:af m m1:=af.push _ _
 have s1:m1.size=m.size+1:=by simp[m1]
 clear_value m1
 have lG:∀c∈m.size::S,c<m1.size:=bd hS x1.size ab
 refine(uw lG (by simp[dx]) (h0.ext x1) ab).mono λ_ m2⟨d,ds,e,gd,hds,d2,f2⟩=>⟨f2.cg bg,d,e,?_⟩
 have z2:=f2.size
 have F2:=(x1.fz [rb]).trans f2
 have Us:br (aY (m.size::S) m2) d ds:=gd.done eX.mono lG aO (by have:=nC ds hds;omega)
 intro m3 m4
 obtain⟨x4,-,z4⟩:=iA (M:=m2) (m1:=m3) (m2:=m4) rfl rfl rfl
 clear_value m4
 have uE:∀{M:ah},m4.size<=M.size->∀c∈m2.size::m.size::S,c<M.size:=λh=>bd (λc hc=>by have:=lG c hc;omega) h ab
 have LL:∀{M:ah},m4.size<=M.size->∀b∈[m2.size,m.size],b<M.size:=λh=>bg
 refine pb (S:=m2.size::m.size::S) [1] 0 (uE ab) (LL ab) aO rfl rfl λa1 x5 i1=>?_
 have z5:=x5.size
 refine pb (S:=m2.size::m.size::S) [1,1] 1 (uE ab) (LL ab) aO rfl rfl λa2 x6 i2=>?_
 have z6:=x6.size
 refine pb (S:=m2.size::m.size::S) [1] 1 (uE ab) (LL ab) aO rfl rfl λa3 x7 i3=>?_
 have z7:=x7.size
 refine pb (S:=m2.size::m.size::S) [1,0] 1 (uE ab) (LL ab) aO rfl rfl λa4 x8 i4=>?_
 have z8:=x8.size
 refine pb (S:=m2.size::m.size::S) [2,1] 1 (uE ab) (LL ab) aO rfl rfl λa5 x9 i5=>?_
 have z9:=x9.size
 refine pb (S:=m2.size::m.size::S) [1,1] 0 (uE ab) (LL ab) aO rfl rfl λa6 cO i6=>?_
 have wh:=cO.size
 intro b1
 have y1:af a6 b1:=af.push _ _
 have X9:=x9.trans cO;have X8:=x8.trans X9;have X7:=x7.trans X8;have X6:=x6.trans X7
 have g1:nA (aY (m2.size::m.size::S) b1) (.mk a6.size 0 6 6) aar:=R1 [(wa [1] 0,.mk m4.size 0 1 1),(wa [1,1] 1,.mk a1.size 0 2 2),(wa [1] 1,.mk a2.size 0 1 1),(wa [1,0] 1,.mk a3.size 0 2 2),(wa [2,1] 1,.mk a4.size 0 2 2),(wa [1,1] 0,.mk a5.size 0 2 2)] (uE ab) (by simp;exact⟨i1.le (X6.bO _),i2.le (X7.bO _),i3.le (X8.bO _),i4.le (X9.bO _),i5.le (cO.bO _),i6⟩) az rfl rfl
 have aA2:b1.size=a6.size+1:=by simp[b1]
 clear_value b1
 have w1:=y1.size
 refine pb (S:=m2.size::m.size::S) [3] 0 (uE ab) (LL ab) aO rfl rfl λc1 u1 j1=>?_
 have v1:=u1.size
 refine pb (S:=m2.size::m.size::S) [0] 1 (uE ab) (LL ab) aO rfl rfl λc2 u2 j2=>?_
 have v2:=u2.size
 refine pb (S:=m2.size::m.size::S) [0,1] 1 (uE ab) (LL ab) aO rfl rfl λc3 u3 j3=>?_
 have v3:=u3.size
 refine pb (S:=m2.size::m.size::S) [3,0] 3 (uE ab) (LL ab) aO rfl rfl λc4 u4 j4=>?_
 have v4:=u4.size
 refine pb (S:=m2.size::m.size::S) [3] 1 (uE ab) (LL ab) aO rfl rfl λc5 u5 j5=>?_
 have v5:=u5.size
 refine pb (S:=m2.size::m.size::S) [1,3,0] 0 (uE ab) (LL ab) aO rfl rfl λc6 u6 j6=>?_
 have v6:=u6.size
 intro b2
 have y2:af c6 b2:=af.push _ _
 have U5:=u5.trans u6;have U4:=u4.trans U5;have U3:=u3.trans U4;have U2:=u2.trans U3
 have g2:nA (aY (m2.size::m.size::S) b2) (.mk c6.size 0 6 6) aas:=R1 [(wa [3] 0,.mk b1.size 0 1 1),(wa [0] 1,.mk c1.size 0 1 1),(wa [0,1] 1,.mk c2.size 0 2 2),(wa [3,0] 3,.mk c3.size 0 2 2),(wa [3] 1,.mk c4.size 0 1 1),(wa [1,3,0] 0,.mk c5.size 0 3 3)] (uE ab) (by simp;exact⟨j1.le (U2.bO _),j2.le (U3.bO _),j3.le (U4.bO _),j4.le (U5.bO _),j5.le (u6.bO _),j6⟩) az rfl rfl
 have aA3:b2.size=c6.size+1:=by simp[b2]
 clear_value b2
 have w2:=y2.size
 refine pb (S:=m2.size::m.size::S) [0] 0 (uE ab) (LL ab) aO rfl rfl λe1 t1 k1=>?_
 have q1:=t1.size
 refine pb (S:=m2.size::m.size::S) [0,0] 0 (uE ab) (LL ab) aO rfl rfl λe2 t2 k2=>?_
 have q2:=t2.size
 refine pb (S:=m2.size::m.size::S) [1,0] 0 (uE ab) (LL ab) aO rfl rfl λe3 t3 k3=>?_
 have q3:=t3.size
 refine pb (S:=m2.size::m.size::S) [0] 1 (uE ab) (LL ab) aO rfl rfl λe4 t4 k4=>?_
 have q4:=t4.size
 intro b3
 have y3:af e4 b3:=af.push _ _
 have T3:=t3.trans t4;have T2:=t2.trans T3
 have g3:nA (aY (m2.size::m.size::S) b3) (.mk e4.size 0 4 4) Oz:=R1 [(wa [0] 0,.mk b2.size 0 1 1),(wa [0,0] 0,.mk e1.size 0 2 2),(wa [1,0] 0,.mk e2.size 0 2 2),(wa [0] 1,.mk e3.size 0 1 1)] (uE ab) (by simp;exact⟨k1.le (T2.bO _),k2.le (T3.bO _),k3.le (t4.bO _),k4⟩) az rfl rfl
 have aA4:b3.size=e4.size+1:=by simp[b3]
 clear_value b3
 have w3:=y3.size
 refine pb (S:=m2.size::m.size::S) [] 0 (uE ab) (LL ab) aO rfl rfl λM0 x0 n0=>?_
 have z0:=x0.size
 have Xb2:=((((u1.trans U2).trans y2)).trans (t1.trans T2)).trans (y3.trans x0)
 have XM:af m4 M0:=((x5.trans X6).trans y1).trans Xb2
 have G1:=nA.le (Xb2.bO _) g1
 have G2:=nA.le ((((t1.trans T2)).trans (y3.trans x0)).bO _) g2
 have G3':=nA.le (x0.bO _) g3
 have dM:Rd rb bs (P+1) M0:=(d2.ext x4).ext XM
 have L2:∀{M:ah},m4.size<=M.size->Lw rb [m2.size,m.size] M:=λh=>lw hr bg
 have hrS:rb∈m2.size::m.size::S:=by simp[dx]
 have gg:∀{M M':ah}{b o:Nat},m4.size<=b->b<M.size->Fz [rb] M M'->ad M' b o=ad M b o:=λh1 h2 f=>aA (f.same _ h2 bg) _
 refine(bo dM ab _).mono λ_ m5⟨r1,en,FC,Hu,d5,f5⟩=>⟨(L2 ab).cg f5,r1,en,FC,by simp at Hu⊢;omega,?_⟩
 have f5':Le (aY (m2.size::m.size::S) M0) (aY (m2.size::m.size::S) m5):=f5.bO (by simp[dx])
 have zz5:=f5.size
 obtain⟨p1,sX⟩:=ae (l:=aar) (k:=r1.toNat) (by simp[aar]at Hu⊢;omega)
 obtain⟨_,⟨pa,pn,pk,pz,rfl,pi⟩,pr⟩:=(nA.le f5' G1).iu _ p1 sX
 have pg:=λi c h=>(cT.1 (pr i c h)).2
 refine⟨_,pg 0 _ rfl,_,pg 1 _ rfl,_,pg 2 _ rfl,_,pg 3 _ rfl,_,pg 4 _ rfl,?_⟩
 refine(bo d5 ab _).mono λ_ m6⟨r2,en,r20,r21,d6,f6⟩=>⟨(L2 ab).cg f6,r2,en,?_⟩
 have zz6:=f6.size
 have Zh:Le (aY (m2.size::m.size::S) m5) (aY (m2.size::m.size::S) m6):=f6.bO (by simp[dx])
 obtain⟨p2,Q7⟩:=ae (l:=aas) (k:=r2.toNat) (by simp[aas]at r21⊢;omega)
 obtain⟨_,⟨qa,qn,qk,qz,rfl,qi⟩,qr⟩:=(nA.le (f5'.trans Zh) G2).iu _ p2 Q7
 have qg:=λi c h=>(cT.1 (qr i c h)).2
 refine⟨gg bg bg f6,gg bg bg f6,gg bg bg f6,gg bg bg f6,gg bg bg f6,r20,by simp at r21⊢;omega,_,qg 0 _ rfl,_,qg 1 _ rfl,_,qg 2 _ rfl,_,qg 3 _ rfl,_,qg 4 _ rfl,?_⟩
 refine(bo d6 ab _).mono λ_ m7⟨r3,en,r30,r31,d7,f7⟩=>⟨(L2 ab).cg f7,r3,en,?_⟩
 have zz7:=f7.size
 have f7':Le (aY (m2.size::m.size::S) m6) (aY (m2.size::m.size::S) m7):=f7.bO (by simp[dx])
 obtain⟨p3,Bn⟩:=ae (l:=Oz) (k:=r3.toNat) (by simp[Oz]at r31⊢;omega)
 obtain⟨_,⟨ra,rn,rk,rz,rfl,ri⟩,rr⟩:=(nA.le ((f5'.trans Zh).trans f7') G3').iu _ p3 Bn
 have rg:=λi c h=>(cT.1 (rr i c h)).2
 refine⟨gg bg bg f7,gg bg bg f7,gg bg bg f7,gg bg bg f7,gg bg bg f7,gg bg bg f7,gg bg bg f7,gg bg bg f7,gg bg bg f7,gg bg bg f7,r30,by simp at r31⊢;omega,_,rg 0 _ rfl,_,rg 1 _ rfl,_,rg 2 _ rfl,_,rg 3 _ rfl,_,rg 4 _ rfl,?_⟩
 intro m8
 have x8':af m7 m8:=af.push _ _
 have OS:aj (aY (m2.size::m.size::S) m7) (.mk b3.size 0 0 0) []:=jM _ _ _ _ _ _
 have gf:Gr (m2.size::m.size::S) m7 m8 dt 5 Qe (.mk m7.size 0 4 4) [(wa [] 0,none),(p1,none),(p2,none),(p3,none)]:=zW Qe.mono (uE ab) dt [((wa [] 0,none),[.s (.mk b3.size 0 0 0),.i 0,.i 0,.i 0,.s .nil]),((p1,none),[.s pa,.i p1.aH,.i pn,.i pk,.s pz]),((p2,none),[.s qa,.i p2.aH,.i qn,.i qk,.s qz]),((p3,none),[.s ra,.i p3.aH,.i rn,.i rk,.s rz])] (by simp;exact⟨⟨_,_,_,_,rfl,OS,az⟩,⟨_,_,_,_,rfl,pi.le (Zh.trans f7'),az⟩,⟨_,_,_,_,rfl,qi.le f7',az⟩,⟨_,_,_,_,rfl,ri,az⟩⟩) rfl rfl
 have s8:m8.size=m7.size+1:=by simp[m8]
 clear_value m8
 let qs:=[wa [] 0,p1,p2,p3]
 have hk7:m7.size≠m2.size:=ab
 have gp4:∀q∈qs,(q.params,q.aH)∈Qc:=by
  simp only[qs,aF0,aGY,aHP];rintro q (rfl|rfl|rfl|rfl)
  ·simp[wa,Qc]
  ·exact R8.1 _ (ak sX)
  ·exact R8.2.1 _ (ak Q7)
  ·exact R8.2.2 _ (ak Bn)
 have F27:Fz [rb] m2 m7:=(((x4.trans XM).fz [rb]).trans f5).trans (f6.trans f7)
 have alX:∀{M:ah}{s:Sl}{l:List (bY×Option Ex)}(o:Nat)(cs:List Ce),Gr (m2.size::m.size::S) m7 M dt 5 Qe s l->Gr (m2.size::m.size::S) m7 (ag M m2.size o cs) dt 5 Qe s l:=λo cs g=>g.Nb Qe.mono ((Fz.av [m2.size] _).ag (Or.inl az) o cs) az (by have:=g.aN;simp;omega)
 intro m9
 have g9:Gr (m2.size::m.size::S) m7 m9 dt 5 Qe (.mk m7.size 0 4 4) [(wa [] 0,none),(p1,none),(p2,none),(p3,none)]:=alX 1 [.s (.mk m7.size 0 4 4)] gf
 have r9:Rs rb bs m2 (P+4) m9:=(Rs.mk (F27.then x8') (d7.ext x8')).put d2 (aFR _) 1 [.s (.mk m7.size 0 4 4)]
 have s9:m9.size=m8.size:=aq _ _ _ _
 clear_value m9
 intro cK
 have abp:af m9 cK:=af.push _ _
 have alY:aj (aY [rb] cK) (.mk m9.size 0 5 5) [4,4,3,2,4]:=aj.lit au _ bg rfl rfl az
 clear_value cK
 have ali:=abp.size
 refine(ij (r9.r.ext abp) ab alY az).mono λ_ dm⟨mn,en,hmn,d11,f11⟩=>⟨(L2 ab).cg f11,mn,en,?_⟩
 have alj:=f11.size
 have aBa:2<=mn/\mn<=4:=by simp at hmn;omega
 obtain⟨n,rfl⟩:∃n:Nat,mn=n:=⟨mn.toNat,ab⟩
 have Jf:Sl.cut (.mk m7.size 0 4 4) (Int.toNat 0) (Int.toNat n) 5=.mk m7.size 0 n 4:=by simp[Sl.cut]
 rw[Jf]
 refine⟨aO,ab,bg,?_⟩
 intro df
 have g12:Gr (m2.size::m.size::S) m7 df dt 5 Qe (.mk m7.size 0 n 4) ([(wa [] 0,none),(p1,none),(p2,none),(p3,none)].take n):=Gr.ao9 aO (alX 1 [.s (.mk m7.size 0 n 4)] ((g9.ext Qe.mono abp).eg Qe.mono f11 (by simp[dx];omega))) ab
 have O8:Rs rb bs m2 (P+5) df:=((r9.ext abp).to f11 d11).put d2 (aFR _) 1 [.s (.mk m7.size 0 n 4)]
 have NJ:df.size=dm.size:=aq _ _ _ _
 clear_value df
 have hqn:(qs.take n).length=n:=by simp[qs];omega
 have gp:GP ds (qs.take n):=⟨hds,ab,ab,λq hq=>gp4 q (aGk hq)⟩
 have ew:bS ((n:Int) -1)=n -1:=aF ab ab
 rw[ew]
 refine⟨λf M=>∃(k:Nat)(l:List (bY×Option Ex)),f=(k:Int) -1/\k<=n/\Gr (m2.size::m.size::S) m7 M dt 5 Qe (.mk m7.size 0 n 4) l/\l.map (·.1)=qs.take n/\(∀(i:Nat)(x:bY×Option Ex),l[i]? =some x->k<=i->∃e,x.2=some e/\Fit ds n x.1.params.length e)/\Rs rb bs m2 (P+5+(n -k)*(300+40*Cg 18)) M/\df.size<=M.size,λf _=>(f+1).toNat,⟨n,_,rfl,aFR _,g12,by rw[aHY];rfl,λi x hi h=>by have:=ap hi;simp at this;omega,by rw[Nat.sub_self,aH3];exact O8,aFR _⟩,?_⟩
 rintro f M ⟨k,l,rfl,TW,g,hl,dp,r,zM⟩
 have ly:l.length=n:=by rw[<-hqn,<-hl];simp
 have gy:=g.aN
 simp only[Sl.gN]at gy
 have Po:m7.size∉m2.size::m.size::S:=λh=>by have:=uE (M:=m4) (aFR _) _ h;omega
 refine⟨λh=>?_,λh=>?_⟩
 ·simp only[aFP]at h
  obtain⟨k,rfl⟩:∃j,k=j+1:=⟨k -1,ab⟩
  have ek:((k+1:Nat):Int) -1=(k:Int):=ab
  rw[ek]
  obtain⟨x,hx⟩:=ae (l:=l) (k:=k) ab
  have Wa:(qs.take n)[k]? =some x.1:=by rw[<-hl];simp[hx]
  have hsg:nA (aY [rb] M) (.mk m7.size 0 n 4) (qs.take n):=by
   have H:=g.lB Qe.mono Po aO ab;rw[<-hl];refine⟨bg,H.cap,H.eP,λj y hy=>?_⟩;simp only[aGb,aGN]at hy;obtain⟨z,hz,rfl⟩:=hy;obtain⟨cs,⟨a,i1,i2,i3,rfl,ha,-⟩,OX⟩:=H.iu j z hz;have le1:=eY M (S:=m2.size::m.size::S) (S':=[rb]) (by simp[dx]);exact⟨_,⟨a,_,_,_,rfl,ha.le le1⟩,le1.iu OX⟩
  have hdM:br (aY [rb] M) d ds:=Us.le ((eY m2 (S':=[rb]) (by simp[dx])).trans (fh r.f))
  have hB:(n -(k+1))*(300+40*Cg 18)+(300+40*Cg 18)=(n -k)*(300+40*Cg 18):=by rw[<-aHm];congr 1;omega
  have hB4:(n -k)*(300+40*Cg 18)<=4*(300+40*Cg 18):=aGh _ ab
  have Pl:k=0->x.1.params.length=0:=λh0=>by subst h0;obtain⟨n',rfl⟩:∃n',n=n'+1:=⟨n -1,ab⟩;simp[qs]at Wa;rw[<-Wa];rfl
  have hS8:∀c∈m7.size::m2.size::m.size::S,c<M.size:=bd (uE (M:=M) ab) (aFR _) gy.2
  refine XP.kk (Mx (S:=m7.size::m2.size::m.size::S) hS8 (by simp[dx]) ⟨r.r,hdM,hsg,gp⟩ ab Wa Pl) (L2 ab) λs e M1 hs he d13 f13=>?_
  have Sw:=f13.size
  intro iC gK
  obtain⟨eU,-,Sx⟩:=iA (M:=M1) (m1:=iC) (m2:=gK) rfl rfl rfl
  clear_value gK
  have g14:=(g.eg Qe.mono f13 (by simp[dx];omega)).ext Qe.mono eU
  obtain⟨cs,⟨a,i1,i2,i3,rfl,ha,-⟩,ji⟩:=g14.cells hx
  have r0':=ji 0 _ rfl;have r1':=ji 1 _ rfl
  refine⟨ab,bg,a,r0',ab,bg,_,r1',ab,bg,?_⟩
  obtain⟨wr,gs,-,qs'⟩:=g14.set Qe.mono (X:=List.range m7.size) ⟨ab,λb hb hn=>absurd (List.mem_range.2 hb) hn⟩ (k:=k) ab (a:=(x.1,some e)) (cs:=[.s a,.i x.1.aH,.i e.op,.i e.bh,.s s]) ⟨a,_,_,_,rfl,ha,λe' MF=>by simp at MF;subst MF;exact⟨rfl,rfl,dC.le (eU.bO _) hs⟩⟩
  refine⟨wr,?_⟩
  intro kT
  have Re:kT.size=gK.size:=aq _ _ _ _
  have Uu:Rs rb bs m2 (P+5+(n -(k+1))*(300+40*Cg 18)+300+40*Cg 18) kT:=((r.to f13 d13).ext eU).put d2 (by show m2.size<=m7.size;omega) _ _
  refine⟨λb hb=>aP _ _ _ _ (by simp at hb;show b≠m7.size;omega),⟨k,l.set k (x.1,some e),aF ab ab,ab,gs,?_,λi y hi hik=>?_,⟨Uu.f,Uu.r.mono ab⟩,ab⟩,?_⟩
  ·rw[aHE,OA (by simp[hx]),hl]
  ·rw[aGR]at hi
   split at hi
   ·rename_i e';subst e';rw[aFW ab]at hi;simp at hi;subst hi
    have:(qs.take n).length=n:=hqn
    rw[this]at he;exact⟨e,rfl,he⟩
   ·exact dp i y hi ab
  ·rw[aF ab ab];show((k:Int) -1+1).toNat<((k:Int)+1).toNat;omega
 ·simp only[aFQ]at h
  have h0:k=0:=ab
  subst h0
  have hle:Le (aY (m2.size::m.size::S) M) (aY S (ag M m.size 0 [.s d,.s (.mk m7.size 0 n 4)])):=bt az λc hc=>by simp[hc]
  have H:=g.lB Qe.mono Po aO ab
  have hB4:(n -0)*(300+40*Cg 18)<=4*(300+40*Cg 18):=aGh _ ab
  have rF:Rs rb bs m (P+5+(n -0)*(300+40*Cg 18)) M:=⟨F2.trans r.f,r.r⟩
  have rF:=rF.put h0 (aFR _) 0 [.s d,.s (.mk m7.size 0 n 4)]
  have Qs:(l.map λx=>(x.1,x.2.getD (.mk 0 0 []))).map (·.1)=qs.take n:=by rw[aIr,<-hl];rfl
  refine⟨d,.mk m7.size 0 n 4,ds,l.map λx=>(x.1,x.2.getD (.mk 0 0 [])),rfl,Us.le ?_,⟨bg,H.cap,H.eP,λj y hy=>?_⟩,⟨by rw[Qs];exact gp,λx hx=>?_⟩,rF.r.mono ab,rF.f⟩
  ·exact(r.f.bO (by simp[dx])).trans ((bt az λc hc=>by simp[hc]))
  ·simp only[aGb,aGN]at hy
   obtain⟨z,hz,rfl⟩:=hy
   obtain⟨e,he,hf⟩:=dp j z hz (aGq _)
   obtain⟨cs,⟨a,i1,i2,i3,rfl,ha,hb⟩,OX⟩:=H.iu j z hz
   obtain⟨rfl,rfl,jx⟩:=hb e he
   exact⟨_,⟨a,i3,by simp[he],ha.le hle,by simp only[he,aHp];exact dC.le hle jx⟩,hle.iu OX⟩
  ·simp only[aIq]at hx
   obtain⟨z,hz,rfl⟩:=hx
   obtain⟨j,hj⟩:=List.mem_iff_getElem?.1 hz
   obtain⟨e,he,hf⟩:=dp j z hj (aGq _)
   simp only[he,aHp,aGy,ly];exact hf
end
end
structure Pd(S:List Nat)(m0 m:ah)(lb:Nat)(s:Sl)(l:List bu)(sc:Nat):Prop where
 box:bK m lb jd [.s s,.i sc]
 gr:GS (lb::S) m0 m s l
 up:m0.size<=lb
theorem Pd.ext{S:List Nat}{m0 m m':ah}{lb sc:Nat}{s:Sl}{l:List bu}(h:Pd S m0 m lb s l sc)(x:af m m'):Pd S m0 m' lb s l sc:=⟨h.box.ext x,h.gr.ext eu.mono x,h.up⟩
theorem Pd.ne{S:List Nat}{m0 m:ah}{lb sc:Nat}{s:Sl}{l:List bu}(h:Pd S m0 m lb s l sc):s.ao≠lb:=h.gr.ne h.box aO
def LoP(S:List Nat)(m0 m:ah)(lb:Nat)(s:Sl)(P:List bu->Nat->Prop)(m':ah):Prop:=∃s' l' DB,Pd S m0 m' lb s' l' DB/\P l' DB/\Fz [lb,s.ao] m m'/\(s'.ao=s.ao\/m.size<=s'.ao)
theorem KJ{S:List Nat}{m0 m:ah}{lb sc:Nat}{s a k:Sl}{l:List bu}{x:bu}(h:Pd S m0 m lb s l sc)(hm:m0.size<=m.size)(ha:aj (aY (s.ao::lb::S) m) a x.args)(hk:lA (aY (s.ao::lb::S) m) k x.aW)(hb:l.length<=1000000)(hs:sc<=1000000):
 aD Tryz.prog 241 [vp lb 0,mJ x a k] m λv m'=>v=vi (sc:Nat)/\LoP S m0 m lb s (λl' DB=>l'=l++[x]/\DB=sc+1) m':=by
 apply tV (lb,0)
 simp -zeta only[aw,ax]
 intro m1
 have x1:af m m1:=af.push _ _
 have s1:m1.size=m.size+1:=by simp[m1]
 clear_value m1
 have h1:=h.ext x1
 have hy:=h1.gr.aN
 have cx:=h1.ne
 have Ln:=h1.box.lt
 have arT:=h.box.lt
 have hy0:=h.gr.aN
 refine⟨s,h1.box.bH 0,?_⟩
 intro m2
 have x2:af m1 m2:=af.push _ _
 refine⟨aA (x2.same _ Ln) _,?_⟩
 have g1:GS (lb::S) (m.extract 0 m0.size) m1 s l:=Gr.bN eu.mono h1.gr (λb hb=>Or.inl hb) (by rw[jz hm];exact aFR _)
 refine Gr.iN (zs:=[.i 0,.i 0,.i 0,.s .nil,.s .nil]) (a:=x) eu.mono aO g1 (((af.Pb hm).trans x1).fz []) ⟨a,k,rfl,ha.le (x1.bO _),cY.le hk (x1.bO _) λ_ _=>pv.le (x1.bO _)⟩ ab λr m3 g f z q=>?_
 have hB3:bK m3 lb jd [.s s,.i sc]:=h1.box.congr (q lb Ln (aHh cx))
 have QD:=g.ne hB3 aO
 refine⟨λc hc=>?_,hB3.dW az,?_⟩
 ·simp at hc;subst hc
  rw[q m.size ab ab,x2.same _ ab]
 intro m4
 have hB4:bK m4 lb jd [.s r,.i sc]:=bK.ag (m:=m3) (o:=0) (r:=[.s r]) hB3
 have e4:∀c,c≠lb->m4[c]? =m3[c]? :=λc hc=>aP _ _ _ _ hc
 have s4:m4.size=m3.size:=aq _ _ _ _
 have ew:bS ((sc:Int)+1)=(sc+1:Nat):=by rw[aF ab ab];rfl
 refine⟨λc hc=>e4 c (by simp at hc;omega),_,hB4.bH 1,hB4.dW az,?_⟩
 rw[ew]
 intro m5
 have hB5:bK m5 lb jd [.s r,.i (sc+1:Nat)]:=bK.ag (m:=m4) (o:=1) (r:=[.i (sc+1:Nat)]) hB4
 have e5:∀c,c≠lb->m5[c]? =m4[c]? :=λc hc=>aP _ _ _ _ hc
 have s5:m5.size=m4.size:=aq _ _ _ _
 refine⟨λc hc=>e5 c (by simp at hc;omega),_,hB5.bH 1,?_⟩
 have g5:GS (lb::S) m0 m5 r (l++[x]):=by
  refine Gr.bN eu.mono (g.re eu.mono (Y:=[lb]) ⟨ab,λc hc hn=>?_⟩ az (by simp;exact QD) λc hc=>Or.inl hc) (λb hb=>Or.inl hb) (by rw[jz hm];exact aFR _);have:c≠lb:=by simpa using hn
  exact(e5 c this).trans (e4 c this)
 refine⟨by rw[aF ab ab];congr 1;omega,r,_,_,⟨hB5,g5,h.up⟩,⟨rfl,rfl⟩,⟨ab,λc hc hn=>?_⟩,by have:=z.2;omega⟩
 simp only[aF0,aGY,aHP,aHO]at hn
 rw[e5 c hn.1,e4 c hn.1,q c ab hn.2,x1.same c hc]
section
structure LW(ds:List aS)(nf sc:Nat)(nw:List bu)(K D DB:Nat):Prop where
 wl:WL ds nf False sc nw
 dd:DB=sc+dc nw
 sz:sw nw<=K
 lZ:DB<=sc+D
theorem LW.av(ds:List aS)(nf sc:Nat):LW ds nf sc [] 0 0 sc:=⟨.nil _ _ _ _,az,az,ab⟩
theorem LW.eE{ds:List aS}{nf sc K D K' D' DB:Nat}{nw:List bu}(h:LW ds nf sc nw K D DB)(hK:K<=K')(hD:D<=D'):LW ds nf sc nw K' D' DB:=⟨h.wl,h.dd,by have:=h.sz;omega,by have:=h.lZ;omega⟩
theorem LW.trans{ds:List aS}{nf sc K D K' D' DB alZ:Nat}{nw nw':List bu}(h:LW ds nf sc nw K D DB)(h':LW ds nf DB nw' K' D' alZ):LW ds nf sc (nw++nw') (K+K') (D+D') alZ:=
 ⟨h.wl.append (h.dd▸h'.wl),by rw[h'.dd,h.dd,bD];omega,by have:=h.sz;have:=h'.sz;rw[cb];omega,by have:=h.lZ;have:=h'.lZ;omega⟩
theorem LW.jm{ds:List aS}{nf sc:Nat}{x:bu}(h:WS ds nf False sc x):LW ds nf sc [x] x.w 1 (sc+1):=⟨.jm h,by rw[iH,qP,dn1 h],by simp[sw],ab⟩
section
variable{S:List Nat}{m0 m m':ah}{lb sc DB:Nat}{s s':Sl}{l l':List bu}
theorem Pd.dX(h:Pd S m0 m lb s l sc)(hx:af m0 m)(hf:Fz [lb,s.ao] m m'):af m0 m':=by
 have hy:=h.gr.aN;have hu:=h.up;exact Fz.ext (((hx.fz [lb,s.ao]).trans hf).By λb hb=>Or.inr (by simp at hb;omega))
theorem Pd.re{S' Y:List Nat}(h:Pd S m0 m lb s l sc)(hf:Fz Y m m')(hY:∀b∈Y,b∈S/\b≠lb/\b≠s.ao)(hS:∀b∈S',b∈S\/m.size<=b):Pd S' m0 m' lb s l sc:=
 ⟨h.box.congr (hf.same _ h.box.lt λhm=>(hY _ hm).2.1 rfl),h.gr.re eu.mono hf (λb hb=>aFT _ (hY b hb).1) (λhm=>(hY _ hm).2.2 rfl) λb hb=>(List.mem_cons.1 hb).elim (λe=>Or.inl (by rw[e];exact aF3)) λhb=>(hS b hb).imp (aFT _) id,h.up⟩
end
structure LS(S:List Nat)(m0 m:ah)(lb:Nat)(s:Sl)(l:List bu)(sc:Nat)(Iz:Sl)(ev:List Int):Prop where
 em:Pd S m0 m lb s l sc
 x:af m0 m
 dX:∀c∈S,c<m.size
 Iz:aj (aY [s.ao,lb] m) Iz ev
 sm:∀y∈ev,0<=y/\y<(sc:Int)
def exV(e:Ex)(t:Sl):Value:=.agg #[vi e.op,vi e.bh,Sl.v t]
def aat(ds:List aS)(nf:Nat)(e:Ex):Prop:=∀(S:List Nat)(m0 m:ah)(lb:Nat)(s:Sl)(l:List bu)(sc:Nat)(Iz:Sl)(ev:List Int)(d p t:Sl),LS S m0 m lb s l sc Iz ev->WX ds nf ev.length e->sc+4*e.n<=2000->ev.length+4*e.n<=2000->l.length+4*e.n<=2000->br m0 d ds->cE ds->dC m0 t e.aW->
 aD Tryz.prog 208 [vp lb 0,.agg #[Sl.v d,Sl.v p],exV e t,Sl.v Iz] m λv m'=>∃r:Int,v=vi r/\LoP S m0 m lb s (λl' DB=>∃nw,l'=l++nw/\LW ds nf sc nw (3*e.n -1) e.n DB/\0<=r/\r<(DB:Int)) m'
def apb(ds:List aS)(nf:Nat)(e:Ex):Prop:=∀(S:List Nat)(m:ah)(sc:Nat)(Iz:Sl)(ev:List Int)(d p t:Sl),(∀c∈S,c<m.size)->aj m Iz ev->(∀y∈ev,0<=y/\y<(sc:Int))->WX ds nf ev.length e->sc+4*e.n<=2000->ev.length+4*e.n<=2000->br m d ds->cE ds->dC m t e.aW->
 k8 179 [.agg #[Sl.v d,Sl.v p],exV e t,Sl.v Iz,vi sc] m S λb=>WB ds nf False sc b/\b.w<=3*e.n
theorem _root_.Go.Vc.Ex.Nm(e:Ex):1<=e.n:=by rw[Ex.ajk];omega
theorem BJ{ds:List aS}{nf:Nat}{e:Ex}(h:aat ds nf e):apb ds nf e:=by
 intro S m sc Iz ev d p t hS he xp hw hsc Q0 hd ht hk;apply wP;simp -zeta only[aw,ax];intro m1 m2 m3 m4 m5;obtain⟨x3,hl,s1,s2,s3⟩:=nX (m1:=m1) (m2:=m2) (m3:=m3) rfl rfl rfl;have x4:af m3 m4:=af.push _ _;have s4:m4.size=m3.size+1:=by simp[m4]
 have g4:GS ((m3.size+1)::m2.size::S) m3 m4 (.mk m3.size 0 0 0) []:=Gr.new _ (aFR _) _ _ _;have x5:af m4 m5:=af.push _ _;have B5:bK m5 m4.size jd [.s (.mk m3.size 0 0 0),.i sc]:=bK.push _ _ _;clear_value m5 m4 m3;have X3:=x3;have X5:=(x3.trans x4).trans x5;have z5:=x5.size;have kX:∀c∈m2.size::S,c<m5.size:=bd hS X5.size ab;have lo:Pd (m2.size::S) m3 m5 m4.size (.mk m3.size 0 0 0) [] sc:=⟨B5,s4▸g4.ext eu.mono x5,ab⟩;have hp:=e.Nm;refine(h (m2.size::S) m3 m5 m4.size _ [] sc Iz ev d p t ⟨lo,x4.trans x5,kX,(he.le (((x3.trans x4).trans x5).aY (S:=[]) bg|>λh=>(yS m).trans h)),xp⟩ hw ab ab bg (hd.le x3.le) ht (dC.le x3.le hk)).mono λv m6⟨r,ev',s6,l6,sc6,o6,⟨nw,e6,w6,r0,r1⟩,f6,b6⟩=>?_;subst e6;have z6:=f6.size;have F6:af m m6:=Fz.ext (((X5.fz [m4.size,m3.size]).trans f6).By λb hb=>by simp at hb;omega);refine⟨f6.cg λb hb=>by simp at hb;simp;omega,r,ev',s6,o6.box.bH 0,?_⟩;intro m7;have hz:=w6.sz;have hlen:=dN l6;refine⟨s6,.mk l6 r,rfl,cU.le (bt az λc hc=>by simp[hc]) (o6.gr.lB eu.mono (λhm=>?_) aO (by show l6.length<=_;omega)),⟨WB.of w6.wl ⟨r0,by rw[<-w6.dd];exact r1⟩,by rw[Bk.nV];omega⟩,F6.ag ab _ _⟩;have hy:=o6.gr.aN;have cx:=o6.ne;simp only[aF0]at hm;rcases hm with e|e|e
 ·exact cx e
 ·omega
 ·have:=hS _ e;omega
end
end Go.Proofs.YtakpkjhmbbfniaaGreat
