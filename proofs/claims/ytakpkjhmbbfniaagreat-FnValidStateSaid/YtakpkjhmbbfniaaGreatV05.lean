/- Part of a proof, joined by a program. -/
import Derived.Test.YtakpkjhmbbfniaaGreatV02
set_option linter.unusedVariables false
set_option linter.unusedSimpArgs false
set_option linter.defProp false
set_option maxHeartbeats 8000000
set_option maxRecDepth 100000
namespace Go.Proofs.YtakpkjhmbbfniaaGreat
open Go.Vc
section
set_option linter.unusedVariables false
set_option linter.defProp false
variable{m:ah}{R:Value->ah->Prop}
def th(m0:Nat×Nat)(Fp Fq Fs:Int)(Ft Fu Fv:Sl)(Dt Du Dv Dw:Int)(Dx Dy:Sl):=bV m R ⟨[],[(10,[(6,.I),(7,.S)])],[(10,[128,127])]⟩ [.c (.p m0.1 m0.2),.agg [.i Fp,.i Fq,.i Fs,.s Ft,.s Fu,.s Fv],.agg [.i Dt,.i Du,.i Dv,.i Dw,.s Dx,.s Dy]] Tryz.func147
def tj(m0:Nat×Nat)(Fp Fq Fs:Int)(Ft Fu Fv:Sl)(w:Int):=bV m R ⟨[],[],[]⟩ [.c (.p m0.1 m0.2),.agg [.i Fp,.i Fq,.i Fs,.s Ft,.s Fu,.s Fv],.c (.i w)] Tryz.func148
def tm(m0:Nat×Nat)(cp:Sl):=bV m R ⟨[(1,[(4,.I)])],[],[]⟩ [.c (.p m0.1 m0.2),.c (.s cp)] Tryz.func149
def mw(m0:Nat×Nat)(at0:Int):=bV m R ⟨[],[],[]⟩ [.c (.p m0.1 m0.2),.c (.i at0)] Tryz.func150
def yv(h cp:Sl):=bV m R ⟨[(2,[(5,.S)])],[],[]⟩ [.c (.s h),.c (.s cp)] Tryz.func151
def qt(m0:Nat×Nat)(Fp Fq Fs:Int)(Ft Fu Fv:Sl)(Dt Du Dv Dw:Int)(Dx Dy:Sl):=bV m R ⟨[(4,[(8,.I)])],[],[(4,[111,110])]⟩ [.c (.p m0.1 m0.2),.agg [.i Fp,.i Fq,.i Fs,.s Ft,.s Fu,.s Fv],.agg [.i Dt,.i Du,.i Dv,.i Dw,.s Dx,.s Dy]] Tryz.func152
def rV(m0:Nat×Nat)(r w:Int):=bV m R ⟨[],[],[]⟩ [.c (.p m0.1 m0.2),.c (.i r),.c (.i w)] Tryz.func153
def vh(e:Nat×Nat)(at0:Int):=bV m R ⟨[],[],[]⟩ [.c (.p e.1 e.2),.c (.i at0)] Tryz.func154
def wN(list:Sl)(at0 n:Int):=bV m R ⟨[],[],[]⟩ [.c (.s list),.c (.i at0),.c (.i n)] Tryz.func155
def yw(sg sj:Sl):=bV m R ⟨[(3,[(4,.I)])],[(8,[(7,.P)])],[(3,[51,50]),(8,[54,51,50])]⟩ [.agg [.s sg,.s sj]] Tryz.func156
def pT(r:Nat×Nat)(m:ah)(R:Value->ah->Prop):Prop:=
 let m1:ah:=m.push (.cells (aU [.s Sl.nil,.s Sl.nil]) 78)
 aD Tryz.prog 100 [vp r.1 r.2] m1 λzC hO=>
 da [m.size] m1 hO/\
 ∃Hu:Sl,zC=Sl.v Hu/\
 let aaU:ah:=hO.push (.cells (aU [.s Sl.nil,.s Sl.nil]) 78)
 NY hO.size hO.size (
 let akc:ah:=ag aaU hO.size 0 [.s Hu,.s Sl.nil]
 let MG:ah:=akc.push (.cells (aU [.i (1:Int)]) 3)
 aD Tryz.prog 180 [Sl.v (Sl.mk akc.size 0 1 1),vi (0:Int)] MG λNC Hv=>
 da [hO.size,m.size] MG Hv/\
 ∃Bl:Sl,∃acO:Int,∃acP:Int,∃Jg:Int,∃Ll:Sl,NC=.agg #[Sl.v Bl,vi acO,vi acP,vi Jg,Sl.v Ll]/\
 let Vk:ah:=Hv.push (.cells (aU [.i (1:Int),.i (1:Int)]) 3)
 aD Tryz.prog 180 [Sl.v (Sl.mk Hv.size 0 2 2),vi (1:Int)] Vk λr_5 afF=>
 da [hO.size,m.size] Vk afF/\
 ∃acQ:Sl,∃acR:Int,∃acS:Int,∃acT:Int,∃acU:Sl,r_5=.agg #[Sl.v acQ,vi acR,vi acS,vi acT,Sl.v acU]/\
 let akd:ah:=afF.push (.cells (aU [.i (1:Int)]) 3)
 aD Tryz.prog 180 [Sl.v (Sl.mk afF.size 0 1 1),vi (1:Int)] akd λr_6 OV=>
 da [hO.size,m.size] akd OV/\
 ∃acV:Sl,∃acW:Int,∃acX:Int,∃acY:Int,∃acZ:Sl,r_6=.agg #[Sl.v acV,vi acW,vi acX,vi acY,Sl.v acZ]/\
 let zD:ah:=OV.push (.cells (aU [.i (1:Int),.i (0:Int)]) 3)
 aD Tryz.prog 180 [Sl.v (Sl.mk OV.size 0 2 2),vi (1:Int)] zD λr_7 Lm=>
 da [hO.size,m.size] zD Lm/\
 ∃ac0:Sl,∃ac1:Int,∃ac2:Int,∃ac3:Int,∃ac4:Sl,r_7=.agg #[Sl.v ac0,vi ac1,vi ac2,vi ac3,Sl.v ac4]/\
 let ac5:ah:=Lm.push (.cells (aU [.i (2:Int),.i (1:Int)]) 3)
 aD Tryz.prog 180 [Sl.v (Sl.mk Lm.size 0 2 2),vi (1:Int)] ac5 λr_8 ND=>
 da [hO.size,m.size] ac5 ND/\
 ∃ac6:Sl,∃ac7:Int,∃ac8:Int,∃ac9:Int,∃ada:Sl,r_8=.agg #[Sl.v ac6,vi ac7,vi ac8,vi ac9,Sl.v ada]/\
 let NE:ah:=ND.push (.cells (aU [.i (1:Int),.i (1:Int)]) 3)
 aD Tryz.prog 180 [Sl.v (Sl.mk ND.size 0 2 2),vi (0:Int)] NE λr_9 dB=>
 da [hO.size,m.size] NE dB/\
 ∃adb:Sl,∃ade:Int,∃adf:Int,∃adg:Int,∃adh:Sl,r_9=.agg #[Sl.v adb,vi ade,vi adf,vi adg,Sl.v adh]/\
 let adi:ah:=dB.push (.cells (aU [.s Bl,.i acO,.i acP,.i Jg,.s Ll,.s acQ,.i acR,.i acS,.i acT,.s acU,.s acV,.i acW,.i acX,.i acY,.s acZ,.s ac0,.i ac1,.i ac2,.i ac3,.s ac4,.s ac6,.i ac7,.i ac8,.i ac9,.s ada,.s adb,.i ade,.i adf,.i adg,.s adh]) 113)
 let adj:ah:=adi.push (.cells (aU [.i (3:Int)]) 3)
 aD Tryz.prog 180 [Sl.v (Sl.mk adi.size 0 1 1),vi (0:Int)] adj λapH XR=>
 da [hO.size,m.size] adj XR/\
 ∃adk:Sl,∃adl:Int,∃adm:Int,∃adn:Int,∃ado:Sl,apH=.agg #[Sl.v adk,vi adl,vi adm,vi adn,Sl.v ado]/\
 let adp:ah:=XR.push (.cells (aU [.i (0:Int)]) 3)
 aD Tryz.prog 180 [Sl.v (Sl.mk XR.size 0 1 1),vi (1:Int)] adp λapI XS=>
 da [hO.size,m.size] adp XS/\
 ∃adq:Sl,∃adr:Int,∃ads:Int,∃adt:Int,∃adu:Sl,apI=.agg #[Sl.v adq,vi adr,vi ads,vi adt,Sl.v adu]/\
 let adv:ah:=XS.push (.cells (aU [.i (0:Int),.i (1:Int)]) 3)
 aD Tryz.prog 180 [Sl.v (Sl.mk XS.size 0 2 2),vi (1:Int)] adv λapJ XT=>
 da [hO.size,m.size] adv XT/\
 ∃adw:Sl,∃adx:Int,∃ady:Int,∃adz:Int,∃adA:Sl,apJ=.agg #[Sl.v adw,vi adx,vi ady,vi adz,Sl.v adA]/\
 let adB:ah:=XT.push (.cells (aU [.i (3:Int),.i (0:Int)]) 3)
 aD Tryz.prog 180 [Sl.v (Sl.mk XT.size 0 2 2),vi (3:Int)] adB λapK XU=>
 da [hO.size,m.size] adB XU/\
 ∃adC:Sl,∃XV:Int,∃XW:Int,∃adD:Int,∃adE:Sl,apK=.agg #[Sl.v adC,vi XV,vi XW,vi adD,Sl.v adE]/\
 let adF:ah:=XU.push (.cells (aU [.i (3:Int)]) 3)
 aD Tryz.prog 180 [Sl.v (Sl.mk XU.size 0 1 1),vi (1:Int)] adF λapL XY=>
 da [hO.size,m.size] adF XY/\
 ∃XZ:Sl,∃X0:Int,∃Ya:Int,∃Yb:Int,∃Yc:Sl,apL=.agg #[Sl.v XZ,vi X0,vi Ya,vi Yb,Sl.v Yc]/\
 let adG:ah:=XY.push (.cells (aU [.i (1:Int),.i (3:Int),.i (0:Int)]) 3)
 aD Tryz.prog 180 [Sl.v (Sl.mk XY.size 0 3 3),vi (0:Int)] adG λapM fZ=>
 da [hO.size,m.size] adG fZ/\
 ∃Yd:Sl,∃Ye:Int,∃Yf:Int,∃Yg:Int,∃Yh:Sl,apM=.agg #[Sl.v Yd,vi Ye,vi Yf,vi Yg,Sl.v Yh]/\
 let adH:ah:=fZ.push (.cells (aU [.s adk,.i adl,.i adm,.i adn,.s ado,.s adq,.i adr,.i ads,.i adt,.s adu,.s adw,.i adx,.i ady,.i adz,.s adA,.s adC,.i XV,.i XW,.i adD,.s adE,.s XZ,.i X0,.i Ya,.i Yb,.s Yc,.s Yd,.i Ye,.i Yf,.i Yg,.s Yh]) 113)
 let adI:ah:=adH.push (.cells (aU [.i (0:Int)]) 3)
 aD Tryz.prog 180 [Sl.v (Sl.mk adH.size 0 1 1),vi (0:Int)] adI λapN Yi=>
 da [hO.size,m.size] adI Yi/\
 ∃Yj:Sl,∃Yk:Int,∃Yl:Int,∃Ym:Int,∃Yn:Sl,apN=.agg #[Sl.v Yj,vi Yk,vi Yl,vi Ym,Sl.v Yn]/\
 let adJ:ah:=Yi.push (.cells (aU [.i (0:Int),.i (0:Int)]) 3)
 aD Tryz.prog 180 [Sl.v (Sl.mk Yi.size 0 2 2),vi (0:Int)] adJ λapO Yo=>
 da [hO.size,m.size] adJ Yo/\
 ∃Yp:Sl,∃Yq:Int,∃Yr:Int,∃Ys:Int,∃Yt:Sl,apO=.agg #[Sl.v Yp,vi Yq,vi Yr,vi Ys,Sl.v Yt]/\
 let adK:ah:=Yo.push (.cells (aU [.i (1:Int),.i (0:Int)]) 3)
 aD Tryz.prog 180 [Sl.v (Sl.mk Yo.size 0 2 2),vi (0:Int)] adK λapP Yu=>
 da [hO.size,m.size] adK Yu/\
 ∃Yv:Sl,∃Yw:Int,∃Yx:Int,∃Yy:Int,∃Yz:Sl,apP=.agg #[Sl.v Yv,vi Yw,vi Yx,vi Yy,Sl.v Yz]/\
 let adL:ah:=Yu.push (.cells (aU [.i (0:Int)]) 3)
 aD Tryz.prog 180 [Sl.v (Sl.mk Yu.size 0 1 1),vi (1:Int)] adL λapQ sV=>
 da [hO.size,m.size] adL sV/\
 ∃YA:Sl,∃YB:Int,∃YC:Int,∃YD:Int,∃YE:Sl,apQ=.agg #[Sl.v YA,vi YB,vi YC,vi YD,Sl.v YE]/\
 let adM:ah:=sV.push (.cells (aU [.s Yj,.i Yk,.i Yl,.i Ym,.s Yn,.s Yp,.i Yq,.i Yr,.i Ys,.s Yt,.s Yv,.i Yw,.i Yx,.i Yy,.s Yz,.s YA,.i YB,.i YC,.i YD,.s YE]) 113)
 let adN:ah:=adM.push (.cells (aU []) 3)
 aD Tryz.prog 180 [Sl.v (Sl.mk adM.size 0 0 0),vi (0:Int)] adN λapR YF=>
 da [hO.size,m.size] adN YF/\
 ∃YG:Sl,∃YH:Int,∃YI:Int,∃YJ:Int,∃YK:Sl,apR=.agg #[Sl.v YG,vi YH,vi YI,vi YJ,Sl.v YK]/\
 aD Tryz.prog 34 [vp r.1 r.2,vi ((Sl.mk dB.size 0 6 6).len:Int)] YF λapS uC=>
 da [hO.size,m.size] YF uC/\
 ∃zE:Int,apS=vi zE/\
 (0:Int)<=zE/\zE<((Sl.mk dB.size 0 6 6).len:Int)/\
 ∃adO:Sl,ad uC ((Sl.mk dB.size 0 6 6).ao) ((Sl.mk dB.size 0 6 6).off+Int.toNat zE*5)=some (Sl.v adO)/\
 ∃adP:Int,ad uC ((Sl.mk dB.size 0 6 6).ao) ((Sl.mk dB.size 0 6 6).off+Int.toNat zE*5+1)=some (vi adP)/\
 ∃adQ:Int,ad uC ((Sl.mk dB.size 0 6 6).ao) ((Sl.mk dB.size 0 6 6).off+Int.toNat zE*5+2)=some (vi adQ)/\
 ∃adR:Int,ad uC ((Sl.mk dB.size 0 6 6).ao) ((Sl.mk dB.size 0 6 6).off+Int.toNat zE*5+3)=some (vi adR)/\
 ∃adS:Sl,ad uC ((Sl.mk dB.size 0 6 6).ao) ((Sl.mk dB.size 0 6 6).off+Int.toNat zE*5+4)=some (Sl.v adS)/\
 aD Tryz.prog 34 [vp r.1 r.2,vi ((Sl.mk fZ.size 0 6 6).len:Int)] uC λapT kH=>
 da [hO.size,m.size] uC kH/\
 ∃Jv:Int,apT=vi Jv/\
 ad kH ((Sl.mk dB.size 0 6 6).ao) ((Sl.mk dB.size 0 6 6).off+Int.toNat zE*5)=ad uC ((Sl.mk dB.size 0 6 6).ao) ((Sl.mk dB.size 0 6 6).off+Int.toNat zE*5)/\
 ad kH ((Sl.mk dB.size 0 6 6).ao) ((Sl.mk dB.size 0 6 6).off+Int.toNat zE*5+1)=ad uC ((Sl.mk dB.size 0 6 6).ao) ((Sl.mk dB.size 0 6 6).off+Int.toNat zE*5+1)/\
 ad kH ((Sl.mk dB.size 0 6 6).ao) ((Sl.mk dB.size 0 6 6).off+Int.toNat zE*5+2)=ad uC ((Sl.mk dB.size 0 6 6).ao) ((Sl.mk dB.size 0 6 6).off+Int.toNat zE*5+2)/\
 ad kH ((Sl.mk dB.size 0 6 6).ao) ((Sl.mk dB.size 0 6 6).off+Int.toNat zE*5+3)=ad uC ((Sl.mk dB.size 0 6 6).ao) ((Sl.mk dB.size 0 6 6).off+Int.toNat zE*5+3)/\
 ad kH ((Sl.mk dB.size 0 6 6).ao) ((Sl.mk dB.size 0 6 6).off+Int.toNat zE*5+4)=ad uC ((Sl.mk dB.size 0 6 6).ao) ((Sl.mk dB.size 0 6 6).off+Int.toNat zE*5+4)/\
 (0:Int)<=Jv/\Jv<((Sl.mk fZ.size 0 6 6).len:Int)/\
 ∃adT:Sl,ad kH ((Sl.mk fZ.size 0 6 6).ao) ((Sl.mk fZ.size 0 6 6).off+Int.toNat Jv*5)=some (Sl.v adT)/\
 ∃adU:Int,ad kH ((Sl.mk fZ.size 0 6 6).ao) ((Sl.mk fZ.size 0 6 6).off+Int.toNat Jv*5+1)=some (vi adU)/\
 ∃adV:Int,ad kH ((Sl.mk fZ.size 0 6 6).ao) ((Sl.mk fZ.size 0 6 6).off+Int.toNat Jv*5+2)=some (vi adV)/\
 ∃adW:Int,ad kH ((Sl.mk fZ.size 0 6 6).ao) ((Sl.mk fZ.size 0 6 6).off+Int.toNat Jv*5+3)=some (vi adW)/\
 ∃adX:Sl,ad kH ((Sl.mk fZ.size 0 6 6).ao) ((Sl.mk fZ.size 0 6 6).off+Int.toNat Jv*5+4)=some (Sl.v adX)/\
 aD Tryz.prog 34 [vp r.1 r.2,vi ((Sl.mk sV.size 0 4 4).len:Int)] kH λapU fL=>
 da [hO.size,m.size] kH fL/\
 ∃ZI:Int,apU=vi ZI/\
 ad fL ((Sl.mk fZ.size 0 6 6).ao) ((Sl.mk fZ.size 0 6 6).off+Int.toNat Jv*5)=ad kH ((Sl.mk fZ.size 0 6 6).ao) ((Sl.mk fZ.size 0 6 6).off+Int.toNat Jv*5)/\
 ad fL ((Sl.mk fZ.size 0 6 6).ao) ((Sl.mk fZ.size 0 6 6).off+Int.toNat Jv*5+1)=ad kH ((Sl.mk fZ.size 0 6 6).ao) ((Sl.mk fZ.size 0 6 6).off+Int.toNat Jv*5+1)/\
 ad fL ((Sl.mk fZ.size 0 6 6).ao) ((Sl.mk fZ.size 0 6 6).off+Int.toNat Jv*5+2)=ad kH ((Sl.mk fZ.size 0 6 6).ao) ((Sl.mk fZ.size 0 6 6).off+Int.toNat Jv*5+2)/\
 ad fL ((Sl.mk fZ.size 0 6 6).ao) ((Sl.mk fZ.size 0 6 6).off+Int.toNat Jv*5+3)=ad kH ((Sl.mk fZ.size 0 6 6).ao) ((Sl.mk fZ.size 0 6 6).off+Int.toNat Jv*5+3)/\
 ad fL ((Sl.mk fZ.size 0 6 6).ao) ((Sl.mk fZ.size 0 6 6).off+Int.toNat Jv*5+4)=ad kH ((Sl.mk fZ.size 0 6 6).ao) ((Sl.mk fZ.size 0 6 6).off+Int.toNat Jv*5+4)/\
 ad fL ((Sl.mk dB.size 0 6 6).ao) ((Sl.mk dB.size 0 6 6).off+Int.toNat zE*5)=ad kH ((Sl.mk dB.size 0 6 6).ao) ((Sl.mk dB.size 0 6 6).off+Int.toNat zE*5)/\
 ad fL ((Sl.mk dB.size 0 6 6).ao) ((Sl.mk dB.size 0 6 6).off+Int.toNat zE*5+1)=ad kH ((Sl.mk dB.size 0 6 6).ao) ((Sl.mk dB.size 0 6 6).off+Int.toNat zE*5+1)/\
 ad fL ((Sl.mk dB.size 0 6 6).ao) ((Sl.mk dB.size 0 6 6).off+Int.toNat zE*5+2)=ad kH ((Sl.mk dB.size 0 6 6).ao) ((Sl.mk dB.size 0 6 6).off+Int.toNat zE*5+2)/\
 ad fL ((Sl.mk dB.size 0 6 6).ao) ((Sl.mk dB.size 0 6 6).off+Int.toNat zE*5+3)=ad kH ((Sl.mk dB.size 0 6 6).ao) ((Sl.mk dB.size 0 6 6).off+Int.toNat zE*5+3)/\
 ad fL ((Sl.mk dB.size 0 6 6).ao) ((Sl.mk dB.size 0 6 6).off+Int.toNat zE*5+4)=ad kH ((Sl.mk dB.size 0 6 6).ao) ((Sl.mk dB.size 0 6 6).off+Int.toNat zE*5+4)/\
 (0:Int)<=ZI/\ZI<((Sl.mk sV.size 0 4 4).len:Int)/\
 ∃adY:Sl,ad fL ((Sl.mk sV.size 0 4 4).ao) ((Sl.mk sV.size 0 4 4).off+Int.toNat ZI*5)=some (Sl.v adY)/\
 ∃adZ:Int,ad fL ((Sl.mk sV.size 0 4 4).ao) ((Sl.mk sV.size 0 4 4).off+Int.toNat ZI*5+1)=some (vi adZ)/\
 ∃ad0:Int,ad fL ((Sl.mk sV.size 0 4 4).ao) ((Sl.mk sV.size 0 4 4).off+Int.toNat ZI*5+2)=some (vi ad0)/\
 ∃ad1:Int,ad fL ((Sl.mk sV.size 0 4 4).ao) ((Sl.mk sV.size 0 4 4).off+Int.toNat ZI*5+3)=some (vi ad1)/\
 ∃ad2:Sl,ad fL ((Sl.mk sV.size 0 4 4).ao) ((Sl.mk sV.size 0 4 4).off+Int.toNat ZI*5+4)=some (Sl.v ad2)/\
 let ake:ah:=fL.push (.cells (aU [.s YG,.i YH,.i YI,.i YJ,.s YK,.s adO,.i adP,.i adQ,.i adR,.s adS,.s adT,.i adU,.i adV,.i adW,.s adX,.s adY,.i adZ,.i ad0,.i ad1,.s ad2]) 113)
 NY hO.size hO.size (
 let ad3:ah:=ag ake hO.size 1 [.s (Sl.mk fL.size 0 4 4)]
 let ad4:ah:=ad3.push (.cells (aU [.i (4:Int),.i (4:Int),.i (3:Int),.i (2:Int),.i (4:Int)]) 3)
 aD Tryz.prog 40 [vp r.1 r.2,Sl.v (Sl.mk ad3.size 0 5 5)] ad4 λapV ad5=>
 da [hO.size,m.size] ad4 ad5/\
 ∃Jh:Int,apV=vi Jh/\
 NY hO.size hO.size (
 (0:Int)<=(0:Int)/\(0:Int)<=Jh/\Jh<=((Sl.mk fL.size 0 4 4).cap:Int)/\
 NY hO.size hO.size (
 let akf:ah:=ag ad5 hO.size 1 [.s (Sl.cut (Sl.mk fL.size 0 4 4) (Int.toNat (0:Int)) (Int.toNat Jh) 5)]
 ∃(I0:Int->ah->Prop)(μ0:Int->ah->Nat),
 I0 (bS (Jh -(1:Int))) akf/\
 (∀(f:Int)(Qx:ah),I0 f Qx->
 ((decide (f>=(0:Int)))=true->
 NY hO.size hO.size (
 aD Tryz.prog 181 [vp r.1 r.2,.agg #[Sl.v Hu,Sl.v (Sl.cut (Sl.mk fL.size 0 4 4) (Int.toNat (0:Int)) (Int.toNat Jh) 5)],vi f] Qx λapW Ig=>
 da [hO.size,m.size] Qx Ig/\
 ∃Sp:Int,∃Sq:Int,∃Sr:Sl,apW=.agg #[vi Sp,vi Sq,Sl.v Sr]/\
 let akg:ah:=Ig.push (.cells (aU [.i (0:Int),.i (0:Int),.s Sl.nil]) 111)
 NY Ig.size Ig.size (
 let Qy:ah:=ag akg Ig.size 0 [.i Sp,.i Sq,.s Sr]
 NY hO.size hO.size (
 NY hO.size hO.size (
 (0:Int)<=f/\f<((Sl.cut (Sl.mk fL.size 0 4 4) (Int.toNat (0:Int)) (Int.toNat Jh) 5).len:Int)/\
 ∃v99:Sl,ad Qy ((Sl.cut (Sl.mk fL.size 0 4 4) (Int.toNat (0:Int)) (Int.toNat Jh) 5).ao) ((Sl.cut (Sl.mk fL.size 0 4 4) (Int.toNat (0:Int)) (Int.toNat Jh) 5).off+Int.toNat f*5)=some (Sl.v v99)/\
 NY hO.size hO.size (
 (0:Int)<=f/\f<((Sl.cut (Sl.mk fL.size 0 4 4) (Int.toNat (0:Int)) (Int.toNat Jh) 5).len:Int)/\
 ∃akh:Int,ad Qy ((Sl.cut (Sl.mk fL.size 0 4 4) (Int.toNat (0:Int)) (Int.toNat Jh) 5).ao) ((Sl.cut (Sl.mk fL.size 0 4 4) (Int.toNat (0:Int)) (Int.toNat Jh) 5).off+Int.toNat f*5+1)=some (vi akh)/\
 NY Ig.size Ig.size (
 (0:Int)<=f/\f<((Sl.cut (Sl.mk fL.size 0 4 4) (Int.toNat (0:Int)) (Int.toNat Jh) 5).len:Int)/\
 dW Qy ((Sl.cut (Sl.mk fL.size 0 4 4) (Int.toNat (0:Int)) (Int.toNat Jh) 5).ao) ((Sl.cut (Sl.mk fL.size 0 4 4) (Int.toNat (0:Int)) (Int.toNat Jh) 5).off+Int.toNat f*5) 5/\
 let YL:ah:=ag Qy ((Sl.cut (Sl.mk fL.size 0 4 4) (Int.toNat (0:Int)) (Int.toNat Jh) 5).ao) ((Sl.cut (Sl.mk fL.size 0 4 4) (Int.toNat (0:Int)) (Int.toNat Jh) 5).off+Int.toNat f*5) [.s v99,.i akh,.i Sp,.i Sq,.s Sr]
 da [Ig.size,hO.size,m.size] Qy YL/\
 eqS (SV.box hO.size 78 [.s Hu,.s (Sl.cut (Sl.mk fL.size 0 4 4) (Int.toNat (0:Int)) (Int.toNat Jh) 5)]) (SV.box hO.size 78 [.s Hu,.s (Sl.cut (Sl.mk fL.size 0 4 4) (Int.toNat (0:Int)) (Int.toNat Jh) 5)]) (
 eqS (SV.box m.size 78 [.s Sl.nil,.s Sl.nil]) (SV.box m.size 78 [.s Sl.nil,.s Sl.nil]) (
 I0 (bS (f -(1:Int))) YL/\μ0 (bS (f -(1:Int))) YL<μ0 f Qx)))))))))/\
 ((decide (f>=(0:Int)))=false->
 NY hO.size hO.size (
 NY m.size m.size (
 let aki:ah:=ag Qx m.size 0 [.s Hu,.s (Sl.cut (Sl.mk fL.size 0 4 4) (Int.toNat (0:Int)) (Int.toNat Jh) 5)]
 NY m.size m.size (
 R (.agg #[Sl.v Hu,Sl.v (Sl.cut (Sl.mk fL.size 0 4 4) (Int.toNat (0:Int)) (Int.toNat Jh) 5)]) aki)))))))))
theorem vj(r:Nat×Nat)(m:ah)(R:Value->ah->Prop)(hvc:pT r m R):aD Tryz.prog 157 [vp r.1 r.2] m R:=
 Cd (A:=⟨[(9,[(8,.I)])],[],[(9,[113,112])]⟩) (n:=110) (rs:=[.cell 2 78]) (args:=[.c (.p r.1 r.2)]) Ry gok mix Tryz.func157 (c:=Rw Tryz.f157) (by kernel_rfl) (by kernel_rfl) (by kernel_rfl) (by kernel_rfl) az (by kernel_rfl) (Eq.mp (by kernel_rfl) hvc)
def Ax(ik il:Sl):=bV m R ⟨[(3,[(4,.I)]),(7,[(5,.S),(6,.I)])],[],[(3,[35,34]),(7,[35,34])]⟩ [.agg [.s ik,.s il]] Tryz.func158
def yx(ik il Bl zC:Sl)(NC:Int)(Jg:Sl)(Ll:Int):=bV m R ⟨[(5,[(6,.S),(7,.S),(8,.I)])],[],[(5,[69,68,67])]⟩ [.agg [.s ik,.s il],.agg [.s Bl,.s zC,.i NC,.s Jg,.i Ll]] Tryz.func159
def yy(ik il vars qC:Sl)(nF:Int)(YM:Sl):=bV m R ⟨[(5,[(9,.S),(10,.S),(11,.S),(12,.I)])],[],[(5,[88,86,84])]⟩ [.agg [.s ik,.s il],.c (.s vars),.agg [.s qC,.i nF],.c (.s YM)] Tryz.func160
def yz(Bl zC:Sl)(NC:Int)(Jg:Sl)(Ll:Int):=bV m R ⟨[(3,[(3,.S),(4,.I)])],[],[(3,[32])]⟩ [.agg [.s Bl,.s zC,.i NC,.s Jg,.i Ll]] Tryz.func161
def vk(ik il:Sl):=bV m R ⟨[(4,[(3,.I)])],[],[(4,[36])]⟩ [.agg [.s ik,.s il]] Tryz.func162
def yA(Bl zC:Sl)(NC:Int)(Jg:Sl)(Ll:Int):=bV m R ⟨[(3,[(4,.I)])],[],[(3,[46])]⟩ [.agg [.s Bl,.s zC,.i NC,.s Jg,.i Ll]] Tryz.func163
def vm(l:Nat×Nat)(ik il:Sl)(jv jw jY:Int)(jZ j7:Sl):=bV m R ⟨[],[(16,[(8,.T)])],[(16,[94,93])]⟩ [.c (.p l.1 l.2),.agg [.s ik,.s il],.agg [.i jv,.i jw,.i jY,.s jZ,.s j7]] Tryz.func164
end
end Go.Proofs.YtakpkjhmbbfniaaGreat
