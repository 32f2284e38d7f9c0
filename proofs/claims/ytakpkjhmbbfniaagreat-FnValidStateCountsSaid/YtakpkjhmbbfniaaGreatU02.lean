/- Part of a proof, joined by a program. -/
import Derived.Test.YtakpkjhmbbfniaaGreatProg
import Derived.Test.YtakpkjhmbbfniaaGreatU01
set_option linter.unusedVariables false
set_option linter.unusedSimpArgs false
set_option linter.defProp false
set_option linter.constructorNameAsVariable false
set_option maxHeartbeats 8000000
set_option maxRecDepth 100000
namespace Go.Proofs.YtakpkjhmbbfniaaGreat
open Go.Vc
section
noncomputable abbrev bY:=Tryz.prog
def TS:TT:=[(0,⟨.tuple [],[],0⟩),
 (3,⟨.cell,[.I],8⟩),
 (4,⟨.cell,[.T],1⟩),
 (5,⟨.cell,[(.U .u8)],1⟩),
 (22,⟨.slice 5,[.S],24⟩),
 (23,⟨.slice 144,[.S],24⟩),
 (24,⟨.slice 57,[.S],24⟩),
 (26,⟨.struct [(0,23),(1,24)],[.S,.S],48⟩),
 (27,⟨.slice 3,[.S],24⟩),
 (28,⟨.slice 37,[.S],24⟩),
 (29,⟨.slice 39,[.S],24⟩),
 (31,⟨.struct [(0,3),(1,3),(2,3),(3,3),(4,27),(5,28),(6,29)],[.I,.I,.I,.I,.S,.S,.S],104⟩),
 (32,⟨.tuple [26,31],[],0⟩),
 (37,⟨.struct [(0,3),(1,3),(2,27)],[.I,.I,.S],40⟩),
 (39,⟨.struct [(0,3),(1,3),(2,3),(3,27),(4,27),(5,27)],[.I,.I,.I,.S,.S,.S],96⟩),
 (42,⟨.cell,[.P],8⟩),
 (49,⟨.struct [(0,22),(1,3)],[.S,.I],32⟩),
 (50,⟨.slice 88,[.S],24⟩),
 (52,⟨.struct [(0,23),(1,50)],[.S,.S],48⟩),
 (53,⟨.tuple [52,4],[],0⟩),
 (55,⟨.slice 59,[.S],24⟩),
 (57,⟨.struct [(0,27),(1,27),(2,3),(3,3),(4,55)],[.S,.S,.I,.I,.S],88⟩),
 (59,⟨.struct [(0,3),(1,3),(2,3),(3,3),(4,27),(5,27)],[.I,.I,.I,.I,.S,.S],80⟩),
 (61,⟨.cell,[.F],8⟩),
 (62,⟨.tuple [27,4],[],0⟩),
 (76,⟨.slice 113,[.S],24⟩),
 (78,⟨.struct [(0,23),(1,76)],[.S,.S],48⟩),
 (82,⟨.cell,[.P],8⟩),
 (85,⟨.struct [(0,26),(2,31)],[.S,.S,.I,.I,.I,.I,.S,.S,.S],152⟩),
 (88,⟨.struct [(0,27),(1,27),(2,3)],[.S,.S,.I],56⟩),
 (91,⟨.tuple [3,3],[],0⟩),
 (94,⟨.tuple [3,4],[],0⟩),
 (101,⟨.slice 130,[.S],24⟩),
 (103,⟨.struct [(0,23),(1,101)],[.S,.S],48⟩),
 (109,⟨.slice 111,[.S],24⟩),
 (111,⟨.struct [(0,3),(1,3),(2,109)],[.I,.I,.S],40⟩),
 (113,⟨.struct [(0,27),(1,3),(2,111)],[.S,.I,.I,.I,.S],72⟩),
 (123,⟨.slice 4,[.S],24⟩),
 (126,⟨.slice 160,[.S],24⟩),
 (128,⟨.struct [(0,126),(1,3)],[.S,.I],32⟩),
 (130,⟨.struct [(0,27),(1,27),(2,3),(3,128)],[.S,.S,.I,.S,.I],88⟩),
 (131,⟨.cell,[.P],8⟩),
 (133,⟨.struct [(0,55)],[.S],24⟩),
 (142,⟨.slice 146,[.S],24⟩),
 (144,⟨.struct [(0,3),(1,3),(2,142)],[.I,.I,.S],40⟩),
 (146,⟨.struct [(0,27)],[.S],24⟩),
 (156,⟨.tuple [3,146],[],0⟩),
 (158,⟨.slice 128,[.S],24⟩),
 (160,⟨.struct [(0,3),(1,3),(2,3),(3,27),(4,158)],[.I,.I,.I,.S,.S],72⟩),
 (164,⟨.cell,[.P],8⟩),
 (165,⟨.tuple [164,4],[],0⟩),
 (168,⟨.struct [(0,27),(1,27),(2,27),(3,27),(4,27),(5,27),(6,27)],[.S,.S,.S,.S,.S,.S,.S],168⟩),
 (208,⟨.slice 27,[.S],24⟩),
 (225,⟨.cell,[.P],8⟩),
 (227,⟨.struct [(0,126),(1,3)],[.S,.I],32⟩)]
abbrev qJ:Nat:=4
abbrev Em:Nat:=22
abbrev cQ:Nat:=128
abbrev qK:Nat:=37
abbrev nj:Nat:=146
abbrev jh:Nat:=144
abbrev bu:Nat:=111
abbrev ez:Nat:=39
abbrev eF:Nat:=113
abbrev tz:Nat:=26
abbrev dB:Nat:=59
abbrev lL:Nat:=103
abbrev iz:Nat:=57
abbrev jE:Nat:=78
abbrev iU:Nat:=130
abbrev jR:Nat:=31
abbrev fp:Nat:=160
abbrev oc:Nat:=88
abbrev kH:Nat:=52
abbrev aB:Nat:=3
abbrev vy:Nat:=27
abbrev my:Nat:=133
abbrev yW:Nat:=168
abbrev j9:Nat:=227
abbrev bC:Nat:=85
abbrev od:Nat:=49
abbrev Np:Nat:=5
def Ow:uA bY TS:=by
 unfold uA;kernel_rfl
def GL:List Nat:=List.range' 3 267
def WM:Rt bY GL:=by
 unfold Rt;kernel_rfl
def Xc:bY.follows .mixedOrders=true:=by kernel_rfl
def XS(a b:Nat):Nat.beq a b=(a==b):=by rw[GF];simp
def XR(a b:Nat):Nat.ble a b=(a -b==0):=by rw[GF];simp;omega
def XT(a b:Nat):Nat.blt a b=(a+1 -b==0):=by rw[GF];simp[Nat.blt];omega
def XK(g:Nat):List.elem g GL=(3 -g==0&&(g -269==0)):=by rw[GF];simp[GL];omega
section
variable{α β:Type}{a:α}{b:β}
def XB(l:List α):(Array.mk l).toList=l:=rfl
end
section
variable(a b c d e f)
def o1:(Oper.mk a b c d e f).dst=a:=rfl
def o2:(Oper.mk a b c d e f).op=b:=rfl
def o3:(Oper.mk a b c d e f).type=c:=rfl
def o5:(Oper.mk a b c d e f).after=e:=rfl
def o6:(Oper.mk a b c d e f).guard=f:=rfl
end
section
variable(a b c)
def a2:(Mh.mk a b c).QL=a:=rfl
def a3:(Mh.mk a b c).RK=b:=rfl
def a4:(Mh.mk a b c).fw=c:=rfl
def t1:(TI.mk a b c).EN=a:=rfl
def t2:(TI.mk a b c).sh=b:=rfl
def t3:(TI.mk a b c).bytes=c:=rfl
def g1:(Edge.mk a b).on=a:=rfl
def g2:(Edge.mk a b).ground=b:=rfl
end
def A0:Mh:=⟨[],[],[]⟩
def cI(x:Int):SV:=.c (.i x)
def cS(x:O):SV:=.c (.s x)
def cP(x:Nat×Nat):SV:=.c (.p x.1 x.2)
def oT(n:Nat){x:TI}(h:fm TS n=some x:=by cbv):fm TS n=some x:=h
def Yf:=oT 0
def Yg:=oT 3
def Yh:=oT 4
def Yi:=oT 5
def Vu:=oT 22
def Vv:=oT 23
def Vw:=oT 24
def Vx:=oT 26
def Vy:=oT 27
def Vz:=oT 28
def VA:=oT 29
def VB:=oT 31
def VC:=oT 32
def VD:=oT 37
def VE:=oT 39
def VF:=oT 42
def VG:=oT 49
def VH:=oT 50
def VI:=oT 52
def VJ:=oT 53
def VK:=oT 55
def VL:=oT 57
def VM:=oT 59
def VN:=oT 61
def VO:=oT 62
def VP:=oT 76
def VQ:=oT 78
def VR:=oT 82
def VS:=oT 85
def VT:=oT 88
def VU:=oT 91
def VV:=oT 94
def Te:=oT 101
def Tf:=oT 103
def Th:=oT 109
def Ti:=oT 111
def Tj:=oT 113
def Tk:=oT 123
def Tl:=oT 126
def Tm:=oT 128
def Tn:=oT 130
def Tp:=oT 131
def Tq:=oT 133
def Ts:=oT 142
def Tt:=oT 144
def Tu:=oT 146
def Tv:=oT 156
def Tw:=oT 158
def Tx:=oT 160
def Tz:=oT 164
def TA:=oT 165
def TB:=oT 168
def TC:=oT 208
def TD:=oT 225
def TE:=oT 227
def cT(m:I)(R:Value->I->Prop)(A:Mh)(a:List SV){f:FuncId}{b:Go.Func}{X:Prop}{c:Code}{n:Nat}{e:List ResultVar}{g:List Value}(l:bY.funcs[f]? =some b)
 (d:(b.body,b.ntmps,b.results)=(some c,n,Array.mk e):=by cbv)
 (i:a.all SV.iL=true:=by kernel_rfl)(o:Nat.ble a.length n=true:=by kernel_rfl)(j:oG c=true:=by kernel_rfl)
 (p:a.map SV.v=g:=by dsimp only[List.map,cI,cS,cP,SV.v,Ce.v])
 (w:Wi (PT bY TS GL A n e c a m R) X->True:=by intro w;obtain - :=XQ w (by sym -abstractProof=>simp[XK,A0.eq_1,cI.eq_1,cS.eq_1,cP.eq_1,Yf,Yg,Yh,Yi,Vu,Vv,Vw,Vx,Vy,Vz,VA,VB,VC,VD,VE,VF,VG,VH,VI,VJ,VK,VL,VM,VN,VO,VP,VQ,VR,VS,VT,VU,VV,Te,Tf,Th,Ti,Tj,Tk,Tl,Tm,Tn,Tp,Tq,Ts,Tt,Tu,Tv,Tw,Tx,Tz,TA,TB,TC,TD,TE,XS,XR,XT,XB,o1,o2,o3,o5,o6,a2,a3,a4,t1,t2,t3,g1,g2,cb,eJ,cN,dS,KY,List.all_nil,ba,eG,List.elem_cons,Sq,Bool.false_and,Sp,Sn,Bool.true_or,So,JF,Bool.and_true,mq,Option.map_none,ig,ic,kU,List.flatMap_nil,List.isEmpty_cons,List.isEmpty_nil,List.any_cons,Nw,oW,List.replicate_zero,sE.eq_1,sE.eq_2,vc.eq_1,vc.eq_4,vc.eq_6,vc.eq_7,vc.eq_8,sL.eq_def,Vp.eq_def,Ta.eq_def,ph.eq_1,ph.eq_2,IQ.eq_def,Rl.eq_1,Rl.eq_2,sF.eq_1,AE.eq_1,AE.eq_2,ju.eq_1,nV.eq_1,nV.eq_2,mL.eq_def,lY.eq_1,lY.eq_2,My.eq_1,Mx.eq_1,Ll.eq_1,Ll.eq_2,ED.eq_1,ED.eq_2,N3.eq_def,SY.eq_1,AI.eq_def,lk.eq_1,lk.eq_2,mR.eq_1,AT.eq_1,AT.eq_2,I7.eq_1,I7.eq_2,nP.eq_def,uK.eq_def,jH.eq_1,ms.eq_1,ms.eq_2,j7.eq_1,rZ.eq_1,rZ.eq_2,rZ.eq_3,qj.eq_1,xh.eq_1,xh.eq_2,gd.eq_1,gd.eq_2,Iv.eq_1,p7.eq_1,p7.eq_2,IC.eq_def,wr.eq_1,wr.eq_2,wr.eq_4,wr.eq_6,wr.eq_8,wr.eq_9,wr.eq_10,wr.eq_11,uP.eq_1,uP.eq_2,PA.eq_1,Rm.eq_1,JH.eq_def,xD.eq_def,rd.eq_1,rd.eq_2,rd.eq_3,rd.eq_4,rd.eq_5,rd.eq_6,rd.eq_7,rd.eq_8,rd.eq_9,rd.eq_10,rd.eq_11,rd.eq_12,rd.eq_13,rd.eq_15,PZ.eq_def,SE,SF,SG,Kw.eq_1,Ei.eq_1,Ei.eq_2,Lz.eq_1,JY.eq_1,JY.eq_2,th.eq_1,th.eq_2,CR.eq_1,CR.eq_2,kM.eq_1,kM.eq_2,kM.eq_3,kM.eq_4,kM.eq_5,SV.cells.eq_def,Wh.eq_def,RY.eq_def,Rz.eq_def,pN.eq_1,pN.eq_2,pN.eq_3,pN.eq_6,pN.eq_7,pN.eq_8,pN.eq_9,pN.eq_10,pN.eq_11,pN.eq_12,SI,SK,SX.eq_1,ER.eq_1,ER.eq_2,ER.eq_3,jX.eq_def,SV.iL.eq_def,TI.sJ.eq_1,TI.agg.eq_1,Sh.zero.eq_1,Sh.zero.eq_2,Sh.zero.eq_3,Sh.zero.eq_4,Sh.zero.eq_5,Sh.zero.eq_6,Sh.zero.eq_7,ev.eq_1,ev.eq_2,ev.eq_3,ev.eq_4,CT.eq_def,nG.eq_1,nG.eq_2,jF.eq_1,jF.eq_3,jF.eq_4,jF.eq_5,jF.eq_6,jF.eq_7,rY.eq_1,rY.eq_2,SV.nb.eq_def,fS.eq_1,fS.eq_2,AV.sv.eq_1,AV.sv.eq_2,SV.v.eq_1,SV.v.eq_2,SV.v.eq_3,SV.v.eq_4,SV.v.eq_5,SV.v.eq_6,SV.v.eq_7,SV.v.eq_8,SV.v.eq_9,AV.v.eq_1,AV.v.eq_2,Ce.v.eq_1,Ce.v.eq_2,Ce.v.eq_3,Ce.v.eq_4,Ce.v.eq_5,Ce.v.eq_6,Ce.v.eq_7,Ce.v.eq_8,Ce.v.eq_9,Ce.v.eq_10,Ce.v.eq_11,Ce.v.eq_12,Ce.v.eq_13,tg.eq_1,tg.eq_2,QB.eq_1,CV.eq_def,iD.eq_1,iD.eq_2,Ez.eq_1,Ez.eq_2,Lf.eq_1,Lf.eq_2,Sh.ty.eq_1,Sh.ty.eq_2,Sh.ty.eq_3,Sh.ty.eq_4,Sh.ty.eq_5,Sh.ty.eq_6,Sh.ty.eq_7,Sh.mk.eq_1,Sh.mk.eq_2,Sh.mk.eq_3,Sh.mk.eq_4,Sh.mk.eq_5,Sh.mk.eq_6,Sh.mk.eq_7,NK.eq_1,SV.RG.eq_def,AV.RG.eq_1,AV.RG.eq_2,Dr.eq_1,Sb.eq_1,Sb.eq_2,Qk.eq_1,Qk.eq_2,WW.eq_1,WV.eq_1,W7.eq_1,Xa.eq_1,WZ.eq_1,WO.eq_1,WQ.eq_1,pa.eq_1,p3.eq_1,p2.eq_1,OX.eq_1,RS.eq_1,WU.eq_1,WY.eq_1,Vl.eq_1,Xb.eq_1,W3.eq_1,W0.eq_1,RT.eq_1,WR.eq_1,WT.eq_1,kw.eq_1,kr.eq_1,ky.eq_1,kn.eq_1,WD.eq_1,WH.eq_1,V9.eq_1,WE.eq_1,WI.eq_1,WG.eq_1,kq.eq_1,ks.eq_def,kc.eq_def,ki.eq_1,kb.eq_def,ke.eq_def,kl.eq_1,kR.eq_def,kx.eq_1,kz.eq_1,kf.eq_def,Lj.eq_1,U8,Qx,OP,OM,SA,SC,SL,Qu,U1,Qv,SH,Qw,Qs,Qt,SJ,SN,OL,Qy,ON,OO,U7,U6,Sw,Sx,XG,XJ,XD,Vf,XI,XE,XH,Xx,XA,Xv,US,Xz,Xw,Xy,XC,z0,z1,tb,Sy,b1,b2,b3,b4,b5,b6,Qz,QA,Vb,Va,U9,Sz,SD,XY,XZ,X0,Ya,Yb,Yc,Yd,iJ];exact Tg.lf _) (by refine Tg.pm.trans ?_;dsimp -zeta+instances only[↓O6,XN,↓Vj,XV,XU,Ez,Lf,Sh.ty,Int.cast_ofNat_Int]);trivial)
 (k:X=PT bY TS GL A n e c a m R:=by kernel_rfl)
 :X->aN bY f g m R:=λh=>by
 subst p
 exact CC Ow WM Xc l (rT Prod.fst d) (rT (λx=>x.2.1) d) (rT (λx=>x.2.2) d) i (kj o) j (k▸h)
def Xm(m:I)(R:Value->I->Prop)(A:Mh)(a:List SV){f:FuncId}{b:Go.Func}{X:Prop}{c:Code}{n:Nat}{e:List ResultVar}{g:List Value}(l:bY.funcs[f]? =some b)
 (d:(b.body,b.ntmps,b.results)=(some c,n,Array.mk e):=by cbv)
 (i:a.all SV.iL=true:=by kernel_rfl)(o:Nat.ble a.length n=true:=by kernel_rfl)(j:oG c=true:=by kernel_rfl)
 (p:a.map SV.v=g:=by dsimp only[List.map,cI,cS,cP,SV.v,Ce.v])
 (w:Wi (PT bY TS GL A n e c a m R) X->True:=by intro w;obtain - :=XQ w (by sym -abstractProof=>simp[XK,A0.eq_1,cI.eq_1,cS.eq_1,cP.eq_1,Yf,Yg,Yh,Yi,Vu,Vv,Vw,Vx,Vy,Vz,VA,VB,VC,VD,VE,VF,VG,VH,VI,VJ,VK,VL,VM,VN,VO,VP,VQ,VR,VS,VT,VU,VV,Te,Tf,Th,Ti,Tj,Tk,Tl,Tm,Tn,Tp,Tq,Ts,Tt,Tu,Tv,Tw,Tx,Tz,TA,TB,TC,TD,TE,XS,XR,XT,XB,o1,o2,o3,o5,o6,a2,a3,a4,t1,t2,t3,g1,g2,cb,eJ,cN,dS,KY,List.all_nil,ba,eG,List.elem_cons,Sq,Bool.false_and,Sp,Sn,Bool.true_or,So,JF,Bool.and_true,mq,Option.map_none,ig,ic,kU,List.flatMap_nil,List.isEmpty_cons,List.isEmpty_nil,List.any_cons,Nw,oW,List.replicate_zero,sE.eq_1,sE.eq_2,vc.eq_1,vc.eq_4,vc.eq_6,vc.eq_7,vc.eq_8,sL.eq_def,Vp.eq_def,Ta.eq_def,ph.eq_1,ph.eq_2,IQ.eq_def,Rl.eq_1,Rl.eq_2,sF.eq_1,AE.eq_1,AE.eq_2,ju.eq_1,nV.eq_1,nV.eq_2,mL.eq_def,lY.eq_1,lY.eq_2,My.eq_1,Mx.eq_1,Ll.eq_1,Ll.eq_2,ED.eq_1,ED.eq_2,N3.eq_def,SY.eq_1,AI.eq_def,lk.eq_1,lk.eq_2,mR.eq_1,AT.eq_1,AT.eq_2,nP.eq_def,uK.eq_def,jH.eq_1,ms.eq_1,ms.eq_2,j7.eq_1,rZ.eq_1,rZ.eq_2,rZ.eq_3,qj.eq_1,xh.eq_1,xh.eq_2,gd.eq_1,gd.eq_2,Iv.eq_1,p7.eq_1,p7.eq_2,IC.eq_def,wr.eq_1,wr.eq_2,wr.eq_4,wr.eq_6,wr.eq_8,wr.eq_9,wr.eq_10,wr.eq_11,uP.eq_1,uP.eq_2,PA.eq_1,Rm.eq_1,JH.eq_def,xD.eq_def,rd.eq_1,rd.eq_2,rd.eq_3,rd.eq_4,rd.eq_5,rd.eq_6,rd.eq_7,rd.eq_8,rd.eq_9,rd.eq_10,rd.eq_11,rd.eq_12,rd.eq_13,rd.eq_15,PZ.eq_def,SE,SF,SG,Kw.eq_1,Ei.eq_1,Ei.eq_2,Lz.eq_1,JY.eq_1,JY.eq_2,th.eq_1,th.eq_2,CR.eq_1,CR.eq_2,kM.eq_1,kM.eq_2,kM.eq_3,kM.eq_4,kM.eq_5,SV.cells.eq_def,Wh.eq_def,RY.eq_def,Rz.eq_def,pN.eq_1,pN.eq_2,pN.eq_3,pN.eq_6,pN.eq_7,pN.eq_8,pN.eq_9,pN.eq_10,pN.eq_11,pN.eq_12,SI,SK,SX.eq_1,ER.eq_1,ER.eq_2,ER.eq_3,jX.eq_def,SV.iL.eq_def,TI.sJ.eq_1,TI.agg.eq_1,Sh.zero.eq_1,Sh.zero.eq_2,Sh.zero.eq_3,Sh.zero.eq_4,Sh.zero.eq_5,Sh.zero.eq_6,Sh.zero.eq_7,ev.eq_1,ev.eq_2,ev.eq_3,ev.eq_4,CT.eq_def,nG.eq_1,nG.eq_2,jF.eq_1,jF.eq_3,jF.eq_4,jF.eq_5,jF.eq_6,jF.eq_7,rY.eq_1,rY.eq_2,SV.nb.eq_def,fS.eq_1,fS.eq_2,AV.sv.eq_1,AV.sv.eq_2,SV.v.eq_1,SV.v.eq_2,SV.v.eq_3,SV.v.eq_4,SV.v.eq_5,SV.v.eq_6,SV.v.eq_7,SV.v.eq_8,SV.v.eq_9,AV.v.eq_1,AV.v.eq_2,Ce.v.eq_1,Ce.v.eq_2,Ce.v.eq_3,Ce.v.eq_4,Ce.v.eq_5,Ce.v.eq_6,Ce.v.eq_7,Ce.v.eq_8,Ce.v.eq_9,Ce.v.eq_10,Ce.v.eq_11,Ce.v.eq_12,Ce.v.eq_13,tg.eq_1,tg.eq_2,QB.eq_1,CV.eq_def,iD.eq_1,iD.eq_2,Ez.eq_1,Ez.eq_2,Lf.eq_1,Lf.eq_2,Sh.ty.eq_1,Sh.ty.eq_2,Sh.ty.eq_3,Sh.ty.eq_4,Sh.ty.eq_5,Sh.ty.eq_6,Sh.ty.eq_7,Sh.mk.eq_1,Sh.mk.eq_2,Sh.mk.eq_3,Sh.mk.eq_4,Sh.mk.eq_5,Sh.mk.eq_6,Sh.mk.eq_7,NK.eq_1,SV.RG.eq_def,AV.RG.eq_1,AV.RG.eq_2,Dr.eq_1,Sb.eq_1,Sb.eq_2,Qk.eq_1,Qk.eq_2,WW.eq_1,WV.eq_1,W7.eq_1,Xa.eq_1,WZ.eq_1,WO.eq_1,WQ.eq_1,pa.eq_1,p3.eq_1,p2.eq_1,OX.eq_1,RS.eq_1,WU.eq_1,WY.eq_1,Vl.eq_1,Xb.eq_1,W3.eq_1,W0.eq_1,RT.eq_1,WR.eq_1,WT.eq_1,kw.eq_1,kr.eq_1,ky.eq_1,kn.eq_1,WD.eq_1,WH.eq_1,V9.eq_1,WE.eq_1,WI.eq_1,WG.eq_1,kq.eq_1,ks.eq_def,kc.eq_def,ki.eq_1,kb.eq_def,ke.eq_def,kl.eq_1,kR.eq_def,kx.eq_1,kz.eq_1,kf.eq_def,Lj.eq_1,U8,Qx,OP,OM,SA,SC,SL,Qu,U1,Qv,SH,Qw,Qs,Qt,SJ,SN,OL,Qy,ON,OO,U7,U6,Sw,Sx,XG,XJ,XD,Vf,XI,XE,XH,Xx,XA,Xv,US,Xz,Xw,Xy,XC,z0,z1,tb,Sy,b1,b2,b3,b4,b5,b6,Qz,QA,Vb,Va,U9,Sz,SD];simp[cb,eJ,iJ,I7.eq_1,I7.eq_2,XY,XZ,X0,Ya,Yb,Yc,Yd];exact Tg.lf _) (by refine Tg.Yt.trans ?_;dsimp -zeta+instances only[↓O6,XN,↓Vj,XV,XU,Ez,Lf,Sh.ty,Int.cast_ofNat_Int]);trivial)
 (k:X=PT bY TS GL A n e c a m R:=by kernel_rfl)
 :X->aN bY f g m R:=λh=>by
 subst p
 exact CC Ow WM Xc l (rT Prod.fst d) (rT (λx=>x.2.1) d) (rT (λx=>x.2.2) d) i (kj o) j (k▸h)
end
section
variable{m:I}{R:Value->I->Prop}
def qy(cG:O):=cT m R ⟨[(9,[(6,.I),(7,.I)]),(15,[(8,.I),(9,.I)]),(18,[(8,.I),(10,.I)])],[],[(9,[89,88]),(15,[89,88]),(18,[89,88])]⟩ [cS cG] Tryz.func4
def px(cG:O):=cT m R ⟨[(10,[(6,.I),(7,.I),(8,.I)]),(14,[(7,.I),(9,.I)]),(19,[(7,.I),(10,.I)])],[],[(10,[98,97]),(14,[98,97]),(19,[98,97])]⟩ [cS cG] Tryz.func5
def sa(cG:O):=cT m R A0 [cS cG] Tryz.func6
def vV(a b:O)(c d e f:Int)(g h i:O):=cT m R A0 [.agg [.s a,.s b],.agg [.i c,.i d,.i e,.i f,.s g,.s h,.s i]] Tryz.func7
def vZ(a b:O)(c d e f:Int)(g h i:O):=cT m R A0 [.agg [.s a,.s b],.agg [.i c,.i d,.i e,.i f,.s g,.s h,.s i]] Tryz.func8
def EO(a:O):=cT m R ⟨[(3,[(3,.I),(4,.I)])],[],[]⟩ [cS a] Tryz.func9
def we(r:Nat×Nat):=cT m R A0 [cP r] Tryz.func10
def yw(cG:O):=cT m R A0 [cS cG] Tryz.func11
def vU(a b:O):=cT m R ⟨[(5,[(20,.I)]),(13,[(66,.I)])],[(12,[])],[(5,[82,80]),(12,[85,82,80]),(13,[85,82,80])]⟩ [.agg [.s a,.s b]] Tryz.func12
def vY(a b:O)(c d e f:Int)(g h i:O):=cT m R ⟨[(10,[(95,.I)]),(20,[(158,.I)])],[(3,[]),(16,[]),(24,[])],[(3,[191,190]),(10,[191,190]),(16,[197,191,190]),(20,[191,190]),(24,[191,190])]⟩ [.agg [.s a,.s b],.agg [.i c,.i d,.i e,.i f,.s g,.s h,.s i]] Tryz.func13
def wK(a b:O)(c d e f:Int)(g h i:O):=cT m R ⟨[(8,[(5,.I)])],[(5,[])],[(5,[93,92]),(8,[93,92])]⟩ [.agg [.s a,.s b],.agg [.i c,.i d,.i e,.i f,.s g,.s h,.s i]] Tryz.func14
def zG(r:Nat×Nat):=cT m R A0 [cP r] Tryz.func15
def wH(a b:O):=cT m R ⟨[(4,[(3,.I)])],[],[(4,[30])]⟩ [.agg [.s a,.s b]] Tryz.func16
def wE(r:Nat×Nat)(a b c d:Int)(e f g:O):=cT m R A0 [cP r,.agg [.i a,.i b,.i c,.i d,.s e,.s f,.s g]] Tryz.func17
def yf(r:Nat×Nat)(a b:O):=cT m R A0 [cP r,.agg [.s a,.s b]] Tryz.func18
def xr(a b:O):=cT m R ⟨[(5,[(18,.I)])],[],[(5,[43,42])]⟩ [.agg [.s a,.s b]] Tryz.func19
def nK(f g a b:O)(c d:Int)(e:O)(k h i j l:Int)(n o:O):=cT m R ⟨[(6,[(88,.I)])],[(5,[])],[(5,[147,146,145,144]),(6,[147,146,145,144])]⟩ [.agg [.s f,.s g],.agg [.s a,.s b,.i c,.i d,.s e],cI k,.agg [.i h,.i i,.i j,.i l,.s n,.s o]] Tryz.func20
end
section
variable{m:I}{R:Value->I->Prop}
def EL(n:Int):=cT m R A0 [cI n] Tryz.func21
def uN(h:O):=cT m R ⟨[(3,[(26,.I)]),(8,[(37,.I)]),(21,[(12,.S),(73,.I)]),(28,[(12,.S),(13,.I)]),(33,[(12,.S),(127,.I)])],[(17,[])],[(8,[165]),(33,[175])]⟩ [cS h] Tryz.func22
def nm(s:O)(f:Fn×Array Value×Array Value):=cT m R A0 [cS s,.c (.fv f)] Tryz.func23
def tQ(n:Int):=cT m R A0 [cI n] Tryz.func24
def vX(g h:O)(a b c:Int)(d e f:O):=cT m R ⟨[(7,[(63,.I)])],[],[(7,[97,95,94])]⟩ [.agg [.s g,.s h],.agg [.i a,.i b,.i c,.s d,.s e,.s f]] Tryz.func25
def uL(a b c:Int)(d e f h g be:O):=cT m R ⟨[(2,[(17,.I)])],[(9,[])],[(2,[82]),(9,[82])]⟩ [.agg [.i a,.i b,.i c,.s d,.s e,.s f],cS h,cS g,cS be] Tryz.func26
def BU(n ft a:Int):=cT m R A0 [cI n,cI ft,cI a] Tryz.func27
def wa(a:O):=cT m R ⟨[(2,[(3,.I)])],[],[]⟩ [cS a] Tryz.func28
def yO(h:O):=cT m R ⟨[(4,[(3,.I)]),(10,[(5,.I)])],[(3,[])],[]⟩ [cS h] Tryz.func29
def wG(a b:O)(c d e f:Int)(g h i:O)(k:Int):=cT m R A0 [.agg [.s a,.s b],.agg [.i c,.i d,.i e,.i f,.s g,.s h,.s i],cI k] Tryz.func30
def zZ(a b c d:Int)(e f g:O):=cT m R ⟨[(3,[(4,.I)]),(6,[(5,.I)]),(14,[(7,.I)])],[],[(3,[101]),(6,[101]),(14,[101])]⟩ [.agg [.i a,.i b,.i c,.i d,.s e,.s f,.s g]] Tryz.func31
def uX(a b c d:Int)(e f g:O):=cT m R ⟨[(4,[(5,.I)])],[],[(4,[44])]⟩ [.agg [.i a,.i b,.i c,.i d,.s e,.s f,.s g]] Tryz.func32
def ye(r:Nat×Nat):=cT m R A0 [cP r] Tryz.func33
def vj(r:Nat×Nat)(n:Int):=cT m R A0 [cP r,cI n] Tryz.func34
def xN(r:Nat×Nat)(a b:O):=cT m R ⟨[(3,[(6,.I)])],[],[(3,[57,56,55])]⟩ [cP r,.agg [.s a,.s b]] Tryz.func35
def wC(r:Nat×Nat)(a b:O)(c:Int):=cT m R A0 [cP r,.agg [.s a,.s b],cI c] Tryz.func36
def yT(a b:O):=cT m R ⟨[(4,[(3,.I)])],[],[(4,[65])]⟩ [.agg [.s a,.s b]] Tryz.func37
def vn(a b:O):=cT m R ⟨[(3,[(4,.I)])],[],[(3,[37,36])]⟩ [.agg [.s a,.s b]] Tryz.func38
end
section
variable{m:I}{R:Value->I->Prop}
def yR(a b c d:O)(e f:Int)(g:O):=cT m R ⟨[(5,[(6,.I)])],[],[(5,[62,61])]⟩ [.agg [.s a,.s b],.agg [.s c,.s d,.i e,.i f,.s g]] Tryz.func39
def wA(r:Nat×Nat)(a:O):=cT m R A0 [cP r,cS a] Tryz.func40
def qG(r:Nat×Nat)(a:O):=cT m R A0 [cP r,cS a] Tryz.func41
def wF(a b:O)(dQ:Int):=cT m R A0 [.agg [.s a,.s b],cI dQ] Tryz.func42
def vg(a:Nat×Nat)(b:Int):=cT m R ⟨[(2,[(5,.I)])],[],[]⟩ [cP a,cI b] Tryz.func43
def xU(a b c d:Int)(e f g:O):=cT m R ⟨[(3,[(4,.I)])],[(2,[(3,.P)])],[(2,[58,57]),(3,[58,57])]⟩ [.agg [.i a,.i b,.i c,.i d,.s e,.s f,.s g]] Tryz.func44
def xu(aY pC:O):=cT m R ⟨[(4,[(39,.I)]),(9,[(64,.I)])],[],[(9,[108])]⟩ [cS aY,cS pC] Tryz.func45
def tP(a:Int):=cT m R A0 [cI a] Tryz.func46
def mH(a:Int)(b c:Nat×Nat):=cT m R A0 [cI a,cP b,cP c] Tryz.func47
def mI(a:Int)(b:Nat×Nat):=cT m R A0 [cI a,cP b] Tryz.func48
def oJ(b c:O)(d e f g:Int)(h i:O)(a:Fn×Array Value×Array Value):=cT m R A0 [.agg [.s b,.s c],.agg [.i d,.i e,.i f,.i g,.s h,.s i],.c (.fv a)] Tryz.func49
def pP(a b:O)(c d e f:Int)(g h:O):=cT m R A0 [.agg [.s a,.s b],.agg [.i c,.i d,.i e,.i f,.s g,.s h]] Tryz.func50
def xp(h:O)(a b:Int)(c:O):=cT m R ⟨[(6,[(48,.I)])],[(5,[])],[(5,[69]),(6,[69])]⟩ [cS h,.agg [.i a,.i b,.s c]] Tryz.func51
def Df(h:O)(w:Int):=cT m R A0 [cS h,cI w] Tryz.func52
def ru(s:O):=cT m R A0 [cS s] Tryz.func53
def oN(s:O)(f:Fn×Array Value×Array Value):=cT m R ⟨[(2,[(8,.I)])],[],[]⟩ [cS s,.c (.fv f)] Tryz.func54
def yM(h:O)(a b:Int)(c:O):=cT m R ⟨[(6,[(5,.I)])],[],[(6,[59])]⟩ [cS h,.agg [.i a,.i b,.s c]] Tryz.func55
def DT(h:O):=cT m R ⟨[(3,[(4,.I)]),(6,[(5,.I)])],[],[]⟩ [cS h] Tryz.func56
end
section
variable{m:I}{R:Value->I->Prop}
def yi(h:O):=cT m R ⟨[(4,[(4,.I),(5,.T)]),(7,[(4,.I),(5,.T),(6,.I)])],[],[]⟩ [cS h] Tryz.func57
def yS(h:O)(a b c:Int)(d e f:O):=cT m R ⟨[(2,[(5,.I)])],[],[(2,[53])]⟩ [cS h,.agg [.i a,.i b,.i c,.s d,.s e,.s f]] Tryz.func58
def ym(w:Int):=cT m R A0 [cI w] Tryz.func59
def Ak(a b c d:Int)(e f g:O):=cT m R ⟨[(3,[(4,.I)]),(7,[(6,.I)])],[],[(3,[61]),(7,[65,61])]⟩ [.agg [.i a,.i b,.i c,.i d,.s e,.s f,.s g]] Tryz.func60
def BQ(a b:O):=cT m R ⟨[(3,[(4,.I)])],[],[(3,[75,74])]⟩ [.agg [.s a,.s b]] Tryz.func61
def tZ(r:Nat×Nat):=cT m R ⟨[],[(4,[]),(6,[]),(9,[]),(11,[])],[(4,[37]),(6,[37]),(9,[37]),(11,[37])]⟩ [cP r] Tryz.func62
def yK(a b:O):=cT m R ⟨[(3,[(4,.I)])],[],[(3,[45,44])]⟩ [.agg [.s a,.s b]] Tryz.func63
def xT(a b:O):=cT m R ⟨[(3,[(4,.I)]),(8,[(6,.S),(7,.I)])],[],[(3,[62,61]),(8,[65,62,61])]⟩ [.agg [.s a,.s b]] Tryz.func64
def xL(r:Nat×Nat)(a b c d:Int)(e f:O):=cT m R A0 [cP r,.agg [.i a,.i b,.i c,.i d,.s e,.s f]] Tryz.func65
def zE(r:Nat×Nat):=cT m R A0 [cP r] Tryz.func66
def wD(r:Nat×Nat)(a b c d:Int)(e f:O):=cT m R A0 [cP r,.agg [.i a,.i b,.i c,.i d,.s e,.s f]] Tryz.func67
def wL(aY:O):=cT m R ⟨[(4,[(3,.I)])],[],[]⟩ [cS aY] Tryz.func68
def zD(aY a:O):=cT m R ⟨[(2,[(5,.I)])],[],[]⟩ [cS aY,cS a] Tryz.func69
def yQ(a cV:O):=cT m R ⟨[(2,[(5,.I)])],[],[]⟩ [cS a,cS cV] Tryz.func70
def wI(b c d e:O)(f g:Int)(h:O)(a:Int):=cT m R ⟨[(4,[(9,.I)])],[(10,[])],[(4,[241,238,237]),(10,[241,238,237])]⟩ [.agg [.s b,.s c],.agg [.s d,.s e,.i f,.i g,.s h],cI a] Tryz.func71
def lX(a:O):=cT m R A0 [cS a] Tryz.func72
def BR(c d:O)(a b:Int)(dg aV:O):=cT m R A0 [.agg [.s c,.s d],cI a,cI b,cS dg,cS aV] Tryz.func73
def um(a:Nat×Nat):=cT m R A0 [cP a] Tryz.func74
end
end Go.Proofs.YtakpkjhmbbfniaaGreat
